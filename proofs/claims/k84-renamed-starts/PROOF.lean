import PyProof.Rows.All
import Wide.All
import OpenK.AllK
import Wide.FinOn
import KE.KStateDown
import Lean
import HandS.ForMost
import HandS.Exc
import HandS.Defaults
import HandS.Property
import HandS.Head0
import HandS.Head1
import HandS.Head2
import HandS.HeadEnd
import HandS.HeadHook1
import HandS.HeadHook2
import HandS.Comp
import HandS.Iter
import HandS.Walk
import HandS.Conv
import HandS.TupAny
import HandS.Text
import HandS.Dict
import HandS.IsInst
import HandS.Wide
import KE.KeyNested
import KE.KDictKeyed
import HandS.Strs
import HandS.More
import HandS.TupLen
import KE.SortData
import HandS.Star
import HandS.ClsMeth
import HandS.Codes
import KE.GoesMore
import KE.GoesEnum
import HandS.DictComp
import PyProof.DictDisplay
import HandS.OwnIter
import HandS.IterVal
import PyProof.CollectWalk
import PyProof.ListNew
import OpenK.KOps
import PyProof.P3Eq
import PySem.Challenge.RW_truetouch_k84_whole_renamed_starts
import HandS.EndBits
set_option Elab.async false
set_option linter.all false
set_option maxRecDepth 100000
set_option maxHeartbeats 0
namespace C3
open PySem PySem.Spec PyProof.Rows L2
/-- where a def stands: a module's name, a class's method, a property's getter -/
inductive At where
  | glo (x : Str) | met (C m : Str) | get (C f : Str)
def propAd (K : PySem.W.Frag) (C : Addr) (f : Str) : Addr := match PySem.W.findIn K (.ref C) f with
  | some (some (.ref p)) => p
  | _ => 0
def getter (K : PySem.W.Frag) (p : Addr) : Addr := match PySem.W.recIn K p "property" with
  | some (.ref g :: _) => g
  | _ => 0
def At.ad (K : PySem.W.Frag) : At → Addr
  | .glo x => He.ga K x
  | .met C m => He.ma K (He.ga K C) m
  | .get C f => getter K (propAd K (He.ga K C) f)
/-- the i-th default of the def at a, if it is an object -/
def dflOf (a : At) (i : Nat) (K : PySem.W.Frag) : Addr := match K.lookup (a.ad K) with
  | some ⟨_, _, .func fd, _⟩ => (match fd.defaults with
    | .ref T => (match K.lookup T with
      | some ⟨_, _, .seq its _, _⟩ => (match its.toList[i]? with
        | some (.ref a) => a
        | _ => 0)
      | _ => 0)
    | _ => 0)
  | _ => 0
structure Df where
  at_ : At
  name : Str
  qual : Str
  st : Stmt
  dfl : List He.Dv := []
abbrev FnW : Type := Option (Str × Str × Arguments × FuncBody × Scope × Addr × List (Str × Addr) × Addr)
def fnW (K : PySem.W.Frag) (a : Addr) : FnW := match K.lookup a with
  | some ⟨_, _, .func fd, _⟩ => some (fd.name, fd.qualname, fd.params, fd.body, fd.scope, fd.globals, fd.closure, fd.builtins)
  | _ => none
def Df.val (d : Df) : FnW := some (d.name, d.qual, defArgs d.st, .stmts (defBody d.st), defScope d.st, mainGlobals, [], builtinsNs)
def Df.dvs (K : PySem.W.Frag) (d : Df) : List V := d.dfl.map (He.Dv.v K)
def Df.ok (K : PySem.W.Frag) (d : Df) : Bool := PySem.W.keepIn K (.ref (d.at_.ad K)) && (match K.lookup (d.at_.ad K) with
  | some ⟨_, _, .func fd, _⟩ => PySem.W.codeIn K fd.code d.qual && He.dflB K fd.defaults (d.dvs K)
  | _ => false)
theorem Df.funD {K : PySem.W.Frag} {d : Df} (e : fnW K (d.at_.ad K) = d.val) (c : d.ok K = true) : ∃ fd, FunD K d.name d.qual (defArgs d.st) (defBody d.st) (defScope d.st) (d.dvs K) [] (d.at_.ad K) fd := by
  obtain ⟨kp, c2⟩ := He.ba c
  unfold fnW at e
  cases q : K.lookup (d.at_.ad K) with
  | none =>
    rw [q] at c2
    cases c2
  | some o =>
    obtain ⟨oc, od, dt, osl⟩ := o
    rw [q] at c2 e
    cases dt with
    | func fd =>
      obtain ⟨n1, n2, n3, n4, n5, n6, n7, n8, n9, n10, n11, n12, n13, n14, n15⟩ := fd
      have e2 : (some (n1, n2, n3, n4, n5, n6, n7, n15) : FnW) = some (d.name, d.qual, defArgs d.st, .stmts (defBody d.st), defScope d.st, mainGlobals, [], builtinsNs) := e
      simp only [Option.some.injEq, Prod.mk.injEq] at e2
      obtain ⟨h1, h2, h3, h4, h5, h6, h7, h8⟩ := e2
      subst h1 h2 h3 h4 h5 h6 h7 h8
      have c3 : (PySem.W.codeIn K n13 d.qual && He.dflB K n8 (d.dvs K)) = true := c2
      obtain ⟨k1, k2⟩ := He.ba c3
      exact ⟨_, ⟨oc, od, n8, n9, n10, n11, n12, n13, n14, osl, rfl, q, k1, He.dflB_ok k2, .inl rfl⟩, kp⟩
    | _ => cases c2
def refs1 : Obj → List Addr
  | ⟨_, _, .func fd, _⟩ => He.refV fd.code ++ He.refV fd.defaults
  | ⟨_, _, .cls cd, _⟩ => [cd.ns]
  | ⟨.type "property", _, .fields vs, _⟩ => (match vs.toList with
    | .ref g :: _ => [g]
    | _ => [])
  | _ => []
def refsNs : Obj → List Addr
  | ⟨_, _, .dict es _, _⟩ => es.toList.flatMap fun e => He.refV e.val
  | _ => []
def into (g : Addr → Option Obj) (f : Obj → List Addr) (as : List Addr) : List Addr := as.flatMap fun a => match g a with
  | some o => f o
  | none => []
def asK (g : Addr → Option Obj) (names : List Str) : List Addr :=
  let a0 := names.map (He.ga (He.frG g [mainGlobals]))
  let a1 := into g refs1 a0
  let a2 := into g refsNs a1
  let a3 := into g refs1 a2
  let a4 := into g refs1 a3
  mainGlobals :: PySem.cStatics :: (a0 ++ (a1 ++ (a2 ++ (a3 ++ a4))))
/-- a property -/
def propOk (K : PySem.W.Frag) (C : Addr) (f : Str) : Bool :=
  decide (PySem.W.findIn K (.ref C) f = some (some (.ref (propAd K C f)))) && (decide (PySem.W.specialIn K (.ref (propAd K C f)) "__get__" = some (some (.builtin "property.__get__"))) &&
    (decide (PySem.W.takesIn K (.ref (propAd K C f)) = some true) && (match PySem.W.recIn K (propAd K C f) "property" with
      | some (.ref g :: _) => true
      | _ => false)))
theorem propOk_ok {K : PySem.W.Frag} {C : Addr} {f : Str} (h : propOk K C f = true) : PropOf K C f (propAd K C f) (getter K (propAd K C f)) := by
  unfold propOk at h
  obtain ⟨h1, h⟩ := He.ba h
  obtain ⟨h2, h⟩ := He.ba h
  obtain ⟨h3, h4⟩ := He.ba h
  refine ⟨of_decide_eq_true h1, of_decide_eq_true h2, of_decide_eq_true h3, ?_⟩
  unfold getter
  split at h4
  · rename_i g r e
    rw [e]
    exact ⟨r, rfl⟩
  · cases h4
inductive Fa where
  | o (f : He.Fa)
  | prop (C f : Str)
  | has (C m : Str)
  | cval (C f : Str) (i : Int)
def Fa.ok (K : PySem.W.Frag) : Fa → Bool
  | .o f => f.ok K
  | .prop C f => propOk K (He.ga K C) f
  | .cval C f i => PySem.W.readsIn K (He.ga K C) (.type "type") && (decide (PySem.W.specialIn K (.ref (He.ga K C)) "__getattribute__" = some (some (.builtin "type.__getattribute__"))) && (match PySem.W.findCls K (.ref (He.ga K C)) (.type "type") f with
    | some (.val (.int j _)) => decide (j = i)
    | _ => false))
  | .has C m => decide (PySem.W.findIn K (.ref (He.ga K C)) m = some (some (.ref (He.ma K (He.ga K C) m))))
abbrev Al : Type := Bool × List FnW
def obs3 (fa : List Fa) (fn : List Df) (K : PySem.W.Frag) : Al := ((fa.all fun f => f.ok K) && fn.all fun d => d.ok K, fn.map fun d => fnW K (d.at_.ad K))
def val3 (fn : List Df) : Al := (true, fn.map Df.val)
def Says (fa : List Fa) (fn : List Df) (K : PySem.W.Frag) : Prop := obs3 fa fn K = val3 fn
/-- lists are left out -/
def isLst : Value → Bool
  | .type n => n == "list"
  | _ => false
def noL (g : Addr → Option Obj) : Addr → Option Obj := fun b => match g b with
  | some o => if isLst o.cls = true then none else some o
  | none => none
theorem noL_some {g : Addr → Option Obj} {b : Addr} {o : Obj} (h : noL g b = some o) : g b = some o ∧ o.cls ≠ .type "list" := by
  unfold noL at h
  split at h
  · rename_i u e
    split at h
    · cases h
    · rename_i n
      cases h
      exact ⟨e, fun z => n (by rw [z]; rfl)⟩
  · cases h
def NoList (K : PySem.W.Frag) : Prop := ∀ b o, K.lookup b = some o → o.cls ≠ .type "list"
def obsG (names : List Str) (fa : List Fa) (fn : List Df) (g : Addr → Option Obj) : Al := obs3 fa fn (He.frG (noL g) (asK g names))
def hook3 (names : List Str) (fa : List Fa) (fn : List Df) : PySem.W.Hook where
  α := Al
  obs := fun s => obsG names fa fn s.heap.get?
  val := fun _ => val3 fn
  says := fun _ h => ∃ K : PySem.W.Frag, K.In h ∧ Says fa fn K ∧ NoList K
  of := fun _ _ e => ⟨_, fun _ _ q => (noL_some (He.frG_at _ q)).1, e, fun _ _ q => (noL_some (He.frG_at _ q)).2⟩
  keeps := fun _ _ _ ⟨K, hK, c⟩ k => ⟨K, PySem.W.Frag.In.keeps hK k, c⟩
theorem obsG_eq {names : List Str} {fa : List Fa} {fn : List Df} {g : Addr → Option Obj} {s : Shared} (h : ∀ a, g a = s.heap.get? a) : obsG names fa fn g = (hook3 names fa fn).obs s := by
  have e : g = s.heap.get? := funext h
  rw [e] <;> rfl
section
variable {fa : List Fa} {fn : List Df} {K : PySem.W.Frag}
theorem Says.facts (c : Says fa fn K) {f : Fa} (h : f ∈ fa) : f.ok K = true := by
  have c1 := (He.ba (show ((fa.all fun f => f.ok K) && fn.all fun d => d.ok K) = true from congrArg (fun z : Al => z.1) c)).1
  exact List.all_eq_true.mp c1 f h
theorem Says.fact (c : Says fa fn K) (i : Nat) {f : Fa} (h : fa[i]? = some f := by rfl) : f.ok K = true := c.facts (List.mem_of_getElem? h)
theorem Says.def_ (c : Says fa fn K) (i : Nat) {d : Df} (h : fn[i]? = some d := by rfl) : ∃ fd, FunD K d.name d.qual (defArgs d.st) (defBody d.st) (defScope d.st) (d.dvs K) [] (d.at_.ad K) fd := by
  have c2 := (He.ba (show ((fa.all fun f => f.ok K) && fn.all fun d => d.ok K) = true from congrArg (fun z : Al => z.1) c)).2
  have e : fn.map (fun d => fnW K (d.at_.ad K)) = fn.map Df.val := congrArg (fun z : Al => z.2) c
  have e2 : (fn.map fun d => fnW K (d.at_.ad K))[i]? = (fn.map Df.val)[i]? := by rw [e]
  rw [List.getElem?_map, List.getElem?_map, h] at e2
  exact Df.funD (Option.some.inj e2) (List.all_eq_true.mp c2 d (List.mem_of_getElem? h))
end
inductive CV where
  | a (v : V) | tup (xs : List CV)
abbrev CV.non : CV := .a .non
abbrev CV.bl (b : Bool) : CV := .a (.bl b)
abbrev CV.int (i : Int) : CV := .a (.int i)
abbrev CV.str (x : Str) : CV := .a (.str x)
abbrev CV.ref (p : Addr) : CV := .a (.ref p)
abbrev CV.ty (n : String) : CV := .a (.ty n)
instance : Inhabited CV := ⟨.a .non⟩
inductive CO where
  /-- a list of ours; one that is read alone; a dict with int and text keys (false) or tuple keys (true); an instance of the class with that number, its attributes by number -/
  | lst (xs : List CV) | rls (xs : List CV) | dic (t : Bool) (kvs : List (NestedKey × CV)) | ins (c : Nat) (fs : List (Nat × CV))
abbrev CH := Addr → Option CO
def cup (G : CH) (p : Addr) (o : CO) : CH := fun q => if q = p then some o else G q
theorem cup_same {G : CH} {p : Addr} {o : CO} : cup G p o p = some o := by unfold cup; rw [if_pos rfl]
theorem cup_ne {G : CH} {p q : Addr} {o : CO} (h : q ≠ p) : cup G p o q = G q := by unfold cup; rw [if_neg h]
theorem cup_cup {G : CH} {p : Addr} {o u : CO} : cup (cup G p o) p u = cup G p u := by funext q; unfold cup; split <;> rfl
/-- what is said of H says less of G -/
def Sub (G G' : CH) : Prop := ∀ p o, G p = some o → G' p = some o
theorem Sub.rfl' {G : CH} : Sub G G := fun _ _ h => h
theorem Sub.trans {G G1 G2 : CH} (a : Sub G G1) (b : Sub G1 G2) : Sub G G2 := fun p o h => b p o (a p o h)
theorem Sub.new {G : CH} {p : Addr} {o : CO} (h : G p = none) : Sub G (cup G p o) := fun q u e => by
  have : q ≠ p := fun z => by subst z; rw [h] at e; cases e
  rw [cup_ne this]; exact e
abbrev CSt := List (Option CV)
abbrev CVK := CV → CH → Prop
structure Nm where
  cls : List Str
  att : List Str
def Nm.cn (N : Nm) (c : Nat) : Str := N.cls.getD c Str.empty
def Nm.an (N : Nm) (f : Nat) : Str := N.att.getD f Str.empty
/-- a tuple whose object has no dict: tracked as known, or of the module's own -/
def SqF (K : PySem.W.Frag) (H : Hp) (p : Addr) (vs : List V) : Prop := (∃ o : Obj, H p = some (.frz o (.tup vs)) ∧ o.dict = none) ∨
  ∃ (o : Obj) (its : Array Value) (n : Nat), K.lookup p = some o ∧ o.cls = .type "tuple" ∧ o.dict = none ∧ o.data = .seq its n ∧ its.size ≤ sizeLine ∧ Vals vs its.toList
theorem SqF.sq {K : PySem.W.Frag} {H : Hp} {p : Addr} {vs : List V} (h : SqF K H p vs) : SqT K H p vs := by
  rcases h with ⟨o, h, _⟩ | ⟨o, its, n, h1, h2, _, h3, h4, h5⟩
  · exact .inl (.inr ⟨o, h⟩)
  · exact .inr ⟨o, its, n, h1, h2, h3, h4, h5⟩
theorem SqF.of {K : PySem.W.Frag} {H : Hp} {p : Addr} {vs : List V} {o : Obj} (h : H p = some (.frz o (.tup vs))) (d : o.dict = none) : SqF K H p vs := .inl ⟨o, h, d⟩
mutual
inductive Rep (K : PySem.W.Frag) (H : Hp) : V → CV → Prop
  | a (v : V) : Rep K H v (.a v)
  | tup {p : Addr} {vs : List V} {cs : List CV} : SqF K H p vs → Reps K H vs cs → Rep K H (.ref p) (.tup cs)
inductive Reps (K : PySem.W.Frag) (H : Hp) : List V → List CV → Prop
  | nil : Reps K H [] []
  | cons {v : V} {vs : List V} {c : CV} {cs : List CV} : Rep K H v c → Reps K H vs cs → Reps K H (v :: vs) (c :: cs)
end
def TupSub (K : PySem.W.Frag) (H H' : Hp) : Prop := ∀ p vs, SqF K H p vs → SqF K H' p vs
theorem TupSub.rfl' {K : PySem.W.Frag} {H : Hp} : TupSub K H H := fun _ _ h => h
theorem TupSub.trans {K : PySem.W.Frag} {H H1 H2 : Hp} (a : TupSub K H H1) (b : TupSub K H1 H2) : TupSub K H H2 := fun p vs h => b p vs (a p vs h)
/-- an address that is none of a tuple's -/
def NoTup (o : Option HO) : Prop := match o with
  | some (.tup _) => False
  | some (.frz _ _) => False
  | _ => True
theorem TupSub.put {K : PySem.W.Frag} {H : Hp} {p : Addr} {o : HO} (h : NoTup (H p)) : TupSub K H (upd H p o) := fun q vs e => by
  rcases e with ⟨ob, e, d⟩ | e
  · refine .inl ⟨ob, ?_, d⟩
    have : q ≠ p := fun z => by
      subst z
      rw [e] at h; exact h
    rw [upd_ne this]; exact e
  · exact .inr e
theorem TupSub.new {K : PySem.W.Frag} {H : Hp} {p : Addr} {o : HO} (h : H p = none) : TupSub K H (upd H p o) := .put (by rw [h]; trivial)
section
variable {K : PySem.W.Frag} {H H' : Hp}
mutual
theorem Rep.mono (t : TupSub K H H') : ∀ {v : V} {c : CV}, Rep K H v c → Rep K H' v c
  | _, _, .a v => .a v
  | _, _, .tup h r => .tup (t _ _ h) (Reps.mono t r)
theorem Reps.mono (t : TupSub K H H') : ∀ {vs : List V} {cs : List CV}, Reps K H vs cs → Reps K H' vs cs
  | _, _, .nil => .nil
  | _, _, .cons r q => .cons (Rep.mono t r) (Reps.mono t q)
end
theorem Reps.length : ∀ {vs : List V} {cs : List CV}, Reps K H vs cs → vs.length = cs.length
  | _, _, .nil => rfl
  | _, _, .cons _ q => congrArg Nat.succ (Reps.length q)
theorem Reps.append : ∀ {vs ws : List V} {cs ds : List CV}, Reps K H vs cs → Reps K H ws ds → Reps K H (vs ++ ws) (cs ++ ds)
  | _, _, _, _, .nil, q => q
  | _, _, _, _, .cons r t, q => .cons r (Reps.append t q)
theorem Reps.take : ∀ {vs : List V} {cs : List CV} (n : Nat), Reps K H vs cs → Reps K H (vs.take n) (cs.take n)
  | _, _, 0, _ => .nil
  | _, _, _ + 1, .nil => .nil
  | _, _, n + 1, .cons r t => .cons r (Reps.take n t)
theorem Reps.drop : ∀ {vs : List V} {cs : List CV} (n : Nat), Reps K H vs cs → Reps K H (vs.drop n) (cs.drop n)
  | _, _, 0, r => r
  | _, _, _ + 1, .nil => .nil
  | _, _, n + 1, .cons _ t => Reps.drop n t
theorem Reps.get : ∀ {vs : List V} {cs : List CV} {i : Nat} {c : CV}, Reps K H vs cs → cs[i]? = some c → ∃ v, vs[i]? = some v ∧ Rep K H v c
  | _, _, _, _, .nil, e => by simp at e
  | _, _, 0, c, .cons r _, e => by simp at e; subst e; exact ⟨_, rfl, r⟩
  | _, _, i + 1, c, .cons _ t, e => by
    obtain ⟨v, h1, h2⟩ := Reps.get (i := i) (c := c) t (by simpa using e)
    exact ⟨v, by simpa using h1, h2⟩
theorem Reps.get' : ∀ {vs : List V} {cs : List CV} {i : Nat} {v : V}, Reps K H vs cs → vs[i]? = some v → ∃ c, cs[i]? = some c ∧ Rep K H v c
  | _, _, _, _, .nil, e => by simp at e
  | _, _, 0, c, .cons r _, e => by simp at e; subst e; exact ⟨_, rfl, r⟩
  | _, _, i + 1, c, .cons _ t, e => by
    obtain ⟨v, h1, h2⟩ := Reps.get' (i := i) (v := c) t (by simpa using e)
    exact ⟨v, by simpa using h1, h2⟩
theorem Reps.set {v : V} {c : CV} (r : Rep K H v c) : ∀ {vs : List V} {cs : List CV} (i : Nat), Reps K H vs cs → Reps K H (vs.set i v) (cs.set i c)
  | _, _, _, .nil => .nil
  | _, _, 0, .cons _ t => .cons r t
  | _, _, i + 1, .cons q t => .cons q (Reps.set r i t)
theorem Reps.eraseIdx : ∀ {vs : List V} {cs : List CV} (i : Nat), Reps K H vs cs → Reps K H (vs.eraseIdx i) (cs.eraseIdx i)
  | _, _, _, .nil => .nil
  | _, _, 0, .cons _ t => t
  | _, _, i + 1, .cons q t => .cons q (Reps.eraseIdx i t)
theorem Reps.dropLast {vs : List V} {cs : List CV} (h : Reps K H vs cs) : Reps K H vs.dropLast cs.dropLast := by
  rw [List.dropLast_eq_take, List.dropLast_eq_take, h.length]
  exact h.take _
theorem Reps.reverse {vs : List V} {cs : List CV} (h : Reps K H vs cs) : Reps K H vs.reverse cs.reverse := by
  have : ∀ {vs : List V} {cs : List CV}, Reps K H vs cs → ∀ {ws : List V} {ds : List CV}, Reps K H ws ds → Reps K H (vs.reverseAux ws) (cs.reverseAux ds) := by
    intro vs cs r
    induction vs generalizing cs with
    | nil => cases r; intro ws ds q; exact q
    | cons v vs ih =>
      cases r with
      | cons r t => intro ws ds q; exact ih t (.cons r q)
  exact this h .nil
theorem Reps.atoms : ∀ (vs : List V), Reps K H vs (vs.map .a)
  | [] => .nil
  | v :: r => .cons (.a v) (Reps.atoms r)
theorem Reps.nil_iff {vs : List V} {cs : List CV} (h : Reps K H vs cs) : vs = [] ↔ cs = [] := by cases h <;> simp
theorem Reps.one {vs : List V} {c : CV} (h : Reps K H vs [c]) : ∃ v, vs = [v] ∧ Rep K H v c := by
  cases h with
  | cons r t => cases t; exact ⟨_, rfl, r⟩
theorem Reps.two {vs : List V} {c d : CV} (h : Reps K H vs [c, d]) : ∃ v w, vs = [v, w] ∧ Rep K H v c ∧ Rep K H w d := by
  cases h with
  | cons r t => obtain ⟨w, rfl, q⟩ := t.one; exact ⟨_, _, rfl, r, q⟩
theorem Reps.three {vs : List V} {c d e : CV} (h : Reps K H vs [c, d, e]) : ∃ v w u, vs = [v, w, u] ∧ Rep K H v c ∧ Rep K H w d ∧ Rep K H u e := by
  cases h with
  | cons r t => obtain ⟨w, u, rfl, q, q2⟩ := t.two; exact ⟨_, _, _, rfl, r, q, q2⟩
theorem Rep.at_a {v u : V} (h : Rep K H v (.a u)) : v = u := by cases h; rfl
theorem Rep.at_tup {v : V} {cs : List CV} (h : Rep K H v (.tup cs)) : ∃ p vs, v = .ref p ∧ SqF K H p vs ∧ Reps K H vs cs := by
  cases h with
  | tup h r => exact ⟨_, _, rfl, h, r⟩
theorem Reps.ints {vs : List V} : ∀ {ns : List Int}, Reps K H vs (ns.map CV.int) → vs = ns.map V.int := by
  induction vs with
  | nil => intro ns h; cases ns with
    | nil => rfl
    | cons n r => cases h
  | cons v r ih => intro ns h; cases ns with
    | nil => cases h
    | cons n t =>
      cases h with
      | cons r1 r2 => rw [r1.at_a, ih r2]; rfl
theorem Reps.strs {vs : List V} : ∀ {ns : List Str}, Reps K H vs (ns.map CV.str) → vs = ns.map V.str := by
  induction vs with
  | nil => intro ns h; cases ns with
    | nil => rfl
    | cons n r => cases h
  | cons v r ih => intro ns h; cases ns with
    | nil => cases h
    | cons n t =>
      cases h with
      | cons r1 r2 => rw [r1.at_a, ih r2]; rfl
end
structure Pm where
  P : Program
  w : World
  K : PySem.W.Frag
  N : Nm
/-- a key of ints and texts -/
def nkK : Key → NestedKey
  | .inl i => .num i
  | .inr x => .text x
theorem nkK_inj : ∀ {a b : Key}, nkK a = nkK b → a = b
  | .inl i, .inl j, e => by cases e; rfl
  | .inr i, .inr j, e => by cases e; rfl
  | .inl _, .inr _, e => by cases e
  | .inr _, .inl _, e => by cases e
/-- a key as a clean value -/
def nkV : NestedKey → CV
  | .none => .a .non
  | .num i => .a (.int i)
  | .text x => .a (.str x)
  | .tup ks => .tup (nkVs ks)
where nkVs : List NestedKey → List CV
  | [] => []
  | k :: ks => nkV k :: nkVs ks
/-- a clean value as a key (no bools) -/
def keyOf : CV → Option NestedKey
  | .a .non => some .none
  | .a (.int i) => some (.num i)
  | .a (.str x) => some (.text x)
  | .tup xs => (keysOf xs).map .tup
  | .a _ => none
where keysOf : List CV → Option (List NestedKey)
  | [] => some []
  | x :: xs => match keyOf x, keysOf xs with
    | some k, some ks => some (k :: ks)
    | _, _ => none
abbrev KC (K : PySem.W.Frag) (H : Hp) : List (Key × V) → List (NestedKey × CV) → Prop := Paired fun p q => nkK p.1 = q.1 ∧ Rep K H p.2 q.2
abbrev TC (K : PySem.W.Frag) (H : Hp) : List (NestedKey × Addr × V) → List (NestedKey × CV) → Prop := Paired fun p q => p.1 = q.1 ∧ Rep K H (.ref p.2.1) (nkV p.1) ∧ p.1.depth ≤ 8 ∧ Rep K H p.2.2 q.2
abbrev FC (N : Nm) (K : PySem.W.Frag) (H : Hp) (Ca : Addr) : List (Str × V) → List (Nat × CV) → Prop := Paired fun p q => p.1 = N.an q.1 ∧ q.1 < N.att.length ∧ Rep K H p.2 q.2 ∧ NoAttr K Ca p.1
abbrev YC : List (NestedKey × Addr × V) → List (NestedKey × Addr × Value) → Prop := Paired fun p q => p.1 = q.1 ∧ p.2.1 = q.2.1 ∧ RelV p.2.2 q.2.2
/-- a dict with tuple keys, by its own object alone: the keys with their tuples' places, the values -/
def DitE (P : Program) (w : World) (d : Addr) (xs : List (NestedKey × Addr × V)) : HO := .ext fun h =>
  (d == sysModules) = false ∧ xs.length ≤ sizeLine ∧ (xs.map (·.1)).Nodup ∧ ∃ ys, YC xs ys ∧
    ∃ o es ep, h.get? d = some o ∧ o.ExactDict ∧ o.data = .dict es ep ∧ es.toList = ys.map (entryOfKey (nestedKind P w))
def RepO (m : Pm) (H : Hp) (p : Addr) : CO → Prop
  | .lst cs => ∃ vs, H p = some (.lst vs) ∧ Reps m.K H vs cs
  | .rls cs => ∃ vs o, H p = some (.frz o (.lst vs)) ∧ Reps m.K H vs cs
  | .dic false kvs => ∃ ks, H p = some (.dK ks) ∧ KC m.K H ks kvs
  | .dic true kvs => ∃ xs, H p = some (DitE m.P m.w p xs) ∧ TC m.K H xs kvs
  | .ins c fs => ∃ dx vs, H p = some (.ins (He.ga m.K (m.N.cn c)) dx vs) ∧ Cls m.K (He.ga m.K (m.N.cn c)) ∧ FC m.N m.K H (He.ga m.K (m.N.cn c)) vs fs
def RelH (m : Pm) (H : Hp) (G : CH) : Prop := ∀ p o, G p = some o → RepO m H p o
theorem RelH.sub {m : Pm} {H : Hp} {G G' : CH} (r : RelH m H G') (s : Sub G G') : RelH m H G := fun p o e => r p o (s p o e)
theorem RepO.there {m : Pm} {H : Hp} {p : Addr} {o : CO} (r : RepO m H p o) : H p ≠ none := by
  cases o with
  | lst cs => obtain ⟨_, e, _⟩ := r; rw [e]; simp
  | rls cs => obtain ⟨_, _, e, _⟩ := r; rw [e]; simp
  | dic t kvs => cases t with
    | false => obtain ⟨_, e, _⟩ := r; rw [e]; simp
    | true => obtain ⟨_, e, _⟩ := r; rw [e]; simp
  | ins c fs => obtain ⟨_, _, e, _⟩ := r; rw [e]; simp
theorem RelH.fresh {m : Pm} {H : Hp} {G : CH} (r : RelH m H G) {p : Addr} (h : H p = none) : G p = none := by
  cases e : G p with
  | none => rfl
  | some o => exact absurd h (r p o e).there
theorem Paired.mono {α β : Type} {F F' : α → β → Prop} (h : ∀ a b, F a b → F' a b) : ∀ {xs : List α} {ys : List β}, Paired F xs ys → Paired F' xs ys
  | _, _, .nil => .nil
  | _, _, .cons r t => .cons (h _ _ r) (Paired.mono h t)
/-- an object stands in the new heap as it stood -/
theorem RepO.keep {m : Pm} {H H' : Hp} {p : Addr} {o : CO} (r : RepO m H p o) (t : TupSub m.K H H') (e : H' p = H p) : RepO m H' p o := by
  cases o with
  | lst cs => obtain ⟨vs, h, q⟩ := r; exact ⟨vs, by rw [e]; exact h, q.mono t⟩
  | rls cs => obtain ⟨vs, ob, h, q⟩ := r; exact ⟨vs, ob, by rw [e]; exact h, q.mono t⟩
  | dic b kvs => cases b with
    | false => obtain ⟨ks, h, q⟩ := r; exact ⟨ks, by rw [e]; exact h, Paired.mono (fun a b z => ⟨z.1, z.2.mono t⟩) q⟩
    | true => obtain ⟨ks, h, q⟩ := r; exact ⟨ks, by rw [e]; exact h, Paired.mono (fun a b z => ⟨z.1, z.2.1.mono t, z.2.2.1, z.2.2.2.mono t⟩) q⟩
  | ins c fs => obtain ⟨dx, vs, h, cl, q⟩ := r; exact ⟨dx, vs, by rw [e]; exact h, cl, Paired.mono (fun a b z => ⟨z.1, z.2.1, z.2.2.1.mono t, z.2.2.2⟩) q⟩
theorem RelH.new {m : Pm} {H : Hp} {G : CH} (r : RelH m H G) {p : Addr} {o : HO} (h : H p = none) : RelH m (upd H p o) G := fun q u e => by
  have : q ≠ p := fun z => by subst z; exact (r q u e).there h
  exact (r q u e).keep (.new h) (by rw [upd_ne this])
/-- a new object, known -/
theorem RelH.newO {m : Pm} {H : Hp} {G : CH} (r : RelH m H G) {p : Addr} {o : HO} {co : CO} (h : H p = none) (ro : RepO m (upd H p o) p co) : RelH m (upd H p o) (cup G p co) := fun q u e => by
  by_cases z : q = p
  · subst z; rw [cup_same] at e; cases e; exact ro
  · rw [cup_ne z] at e
    exact (r.new (o := o) h) q u e
/-- an object is written -/
theorem RelH.write {m : Pm} {H : Hp} {G : CH} (r : RelH m H G) {p : Addr} {o : HO} {co : CO} (h : NoTup (H p)) (ro : RepO m (upd H p o) p co) : RelH m (upd H p o) (cup G p co) := fun q u e => by
  by_cases z : q = p
  · subst z; rw [cup_same] at e; cases e; exact ro
  · rw [cup_ne z] at e
    exact (r q u e).keep (.put h) (by rw [upd_ne z])
theorem RelH.lst {m : Pm} {H : Hp} {G : CH} (r : RelH m H G) {p : Addr} {cs : List CV} (e : G p = some (.lst cs)) : ∃ vs, H p = some (.lst vs) ∧ Reps m.K H vs cs := r p _ e
/-- any list that is read -/
def CH.seq (G : CH) (p : Addr) : Option (List CV) := match G p with
  | some (.lst xs) => some xs
  | some (.rls xs) => some xs
  | _ => none
theorem RelH.seq {m : Pm} {H : Hp} {G : CH} (r : RelH m H G) {p : Addr} {cs : List CV} (e : G.seq p = some cs) : ∃ vs, SqL m.K H p vs ∧ Reps m.K H vs cs := by
  unfold CH.seq at e
  split at e
  · rename_i xs h; cases e; obtain ⟨vs, h1, h2⟩ := r p _ h; exact ⟨vs, .of h1, h2⟩
  · rename_i xs h; cases e; obtain ⟨vs, o, h1, h2⟩ := r p _ h; exact ⟨vs, .inl (.inr ⟨o, h1⟩), h2⟩
  · cases e
structure RelS (K : PySem.W.Frag) (H : Hp) (σ : L2.St) (τ : CSt) : Prop where
  len : σ.length = τ.length
  at_ : ∀ (i : Nat) (c : CV), τ[i]? = some (some c) → ∃ v, σ[i]? = some (some v) ∧ Rep K H v c
theorem RelS.mono {K : PySem.W.Frag} {H H' : Hp} {σ : L2.St} {τ : CSt} (r : RelS K H σ τ) (t : TupSub K H H') : RelS K H' σ τ := ⟨r.len, fun i c e => let ⟨v, h1, h2⟩ := r.at_ i c e; ⟨v, h1, h2.mono t⟩⟩
theorem RelS.set {K : PySem.W.Frag} {H : Hp} {σ : L2.St} {τ : CSt} {v : V} {c : CV} (r : RelS K H σ τ) (i : Nat) (h : Rep K H v c) : RelS K H (σ.set i (some v)) (τ.set i (some c)) := by
  refine ⟨by rw [List.length_set, List.length_set, r.len], fun j d e => ?_⟩
  by_cases z : i = j
  · subst z
    have hl : i < τ.length := by
      have := (List.getElem?_eq_some_iff.mp e).1
      simpa using this
    rw [List.getElem?_set_self hl] at e
    cases e
    exact ⟨v, by rw [List.getElem?_set_self (by rw [r.len]; exact hl)], h⟩
  · rw [List.getElem?_set_ne z] at e
    rw [List.getElem?_set_ne z]
    exact r.at_ j d e
/-- what is wanted of a clean value, for a wish Q at the layer below -/
def Fin (m : Pm) (H : Hp) (R : CVK) (Q : VK) : Prop := ∀ v c H' G', R c G' → Rep m.K H' v c → RelH m H' G' → TupSub m.K H H' → Q v H'
theorem Fin.mono {m : Pm} {H H1 : Hp} {R : CVK} {Q : VK} (f : Fin m H R Q) (t : TupSub m.K H H1) : Fin m H1 R Q := fun v c H' G' h r g t' => f v c H' G' h r g (t.trans t')
abbrev CTE := CSt → CH → CVK → Prop
abbrev CTT := CSt → CH → (Bool → CH → Prop) → Prop
abbrev CTA := CSt → CH → (List CV → CH → Prop) → Prop
structure CEnds where
  nx : CSt → CH → Prop
  rt : CVK
  bk : CSt → CH → Prop := fun _ _ => False
  ct : CSt → CH → Prop := fun _ _ => False
abbrev CTS := CEnds → CSt → CH → Prop
/-- a place: slots and heap are told -/
structure At0 (m : Pm) (σ : L2.St) (H : Hp) (τ : CSt) (G : CH) : Prop where
  s : RelS m.K H σ τ
  h : RelH m H G
def lE (m : Pm) (T : CTE) : TE := fun σ H Q => ∃ τ G R, At0 m σ H τ G ∧ T τ G R ∧ Fin m H R Q
def lT (m : Pm) (T : CTT) : TT := fun σ H Q => ∃ τ G R, At0 m σ H τ G ∧ T τ G R ∧ ∀ b H' G', R b G' → RelH m H' G' → TupSub m.K H H' → Q b H'
def lA (m : Pm) (T : CTA) : TA := fun σ H Q => ∃ τ G R, At0 m σ H τ G ∧ T τ G R ∧ ∀ vs cs H' G', R cs G' → Reps m.K H' vs cs → RelH m H' G' → TupSub m.K H H' → Q vs H'
structure FinS (m : Pm) (H : Hp) (C : CEnds) (D : Ends) : Prop where
  nx : ∀ σ τ H' G', C.nx τ G' → At0 m σ H' τ G' → TupSub m.K H H' → D.nx σ H'
  rt : Fin m H C.rt D.rt
  bk : ∀ σ τ H' G', C.bk τ G' → At0 m σ H' τ G' → TupSub m.K H H' → D.bk σ H'
  ct : ∀ σ τ H' G', C.ct τ G' → At0 m σ H' τ G' → TupSub m.K H H' → D.ct σ H'
theorem FinS.mono {m : Pm} {H H1 : Hp} {C : CEnds} {D : Ends} (f : FinS m H C D) (t : TupSub m.K H H1) : FinS m H1 C D :=
  ⟨fun σ τ H' G' h a t' => f.nx σ τ H' G' h a (t.trans t'), f.rt.mono t, fun σ τ H' G' h a t' => f.bk σ τ H' G' h a (t.trans t'), fun σ τ H' G' h a t' => f.ct σ τ H' G' h a (t.trans t')⟩
def lS (m : Pm) (T : CTS) : TS := fun D σ H => ∃ τ G C, At0 m σ H τ G ∧ T C τ G ∧ FinS m H C D
/-- a def's promise -/
abbrev CSp := List CV → CH → CVK → Prop
def lSp (m : Pm) (sp : CSp) : Sp := fun vs H Q _ => ∃ cs G R, Reps m.K H vs cs ∧ RelH m H G ∧ sp cs G R ∧ Fin m H R Q
theorem PE.imp {X : Cx} {e : Expr} {t t' : TE} (h : PE X e t) (i : ∀ σ H Q, t' σ H Q → t σ H Q) : PE X e t' := ⟨fun pins s σ H Q I q => h.run pins s σ H Q I (i σ H Q q)⟩
theorem PT.imp {X : Cx} {e : Expr} {t t' : TT} (h : PT X e t) (i : ∀ σ H Q, t' σ H Q → t σ H Q) : PT X e t' := ⟨fun pins s σ H Q I q => h.run pins s σ H Q I (i σ H Q q)⟩
theorem PW.imp {X : Cx} {e : Expr} {t t' : TT} (h : PW X e t) (i : ∀ σ H Q, t' σ H Q → t σ H Q) : PW X e t' := ⟨fun wh pins s σ H Q I q => h.run wh pins s σ H Q I (i σ H Q q)⟩
theorem PA.imp {X : Cx} {es : List Expr} {t t' : TA} (h : PA X es t) (i : ∀ σ H Q, t' σ H Q → t σ H Q) : PA X es t' := ⟨fun pos pins s σ H Q I q => h.run pos pins s σ H Q I (i σ H Q q)⟩
theorem PS.imp {X : Cx} {st : Stmt} {t t' : TS} (h : PS X st t) (i : ∀ D σ H, t' D σ H → t D σ H) : PS X st t' := ⟨fun pins s σ H D I q => h.run pins s σ H D I (i D σ H q)⟩
theorem PSs.imp {X : Cx} {st : List Stmt} {t t' : TS} (h : PSs X st t) (i : ∀ D σ H, t' D σ H → t D σ H) : PSs X st t' := ⟨fun pins s σ H D I q => h.run pins s σ H D I (i D σ H q)⟩
theorem frz_ok {P : Program} {w : World} {H : Hp} {h : Heap} {p : Addr} {vs : List V} {us : List Value} (hz : vs.length ≤ sizeLine) (rv : Vals vs us) (e : h.get? p = some { cls := .type "tuple", data := .seq us.toArray }) :
    ObjOk P w H h p (.frz { cls := .type "tuple", data := .seq us.toArray } (.tup vs)) := ⟨e, hz, us, rv, _, e, rfl, _, rfl⟩
section
variable {X : Cx}
def tTupF (t : TA) : TE := fun σ H Q => t σ H fun xs H1 => xs.length ≤ sizeLine ∧ ∀ p o, H1 p = none → o.dict = none → Q (.ref p) (upd H1 p (.frz o (.tup xs)))
theorem pe_tupF {es : List Expr} {t : TA} {x1 : Nat} {pos : Pos} (h : PA X es t) : PE X (.Tuple es x1 pos) (tTupF t) := by
  refine ⟨fun pins s σ H Q I hq => ?_⟩
  refine wpAny_Tuple_spliced (thn (h.run pos pins s σ H _ I hq) fun us s1 ⟨xs, H1, I1, r, z, q⟩ => ⟨by rw [← r.length]; exact z, ?_⟩)
  have hf : H1 s1.heap.objs.size = none := I1.hok.fresh (Nat.le_refl _)
  exact ⟨.ref s1.heap.objs.size, _, I1.laid (t' := s1.toks) (o := .frz { cls := .type "tuple", data := .seq us.toArray } (.tup xs)) (fun b u e => Heap.get?_push_of_some _ e) (Nat.le_refl _) (frz_ok z r (Heap.get?_push_size _ rfl)), rfl, q _ _ hf rfl⟩
def rCatF (K : PySem.W.Frag) : R2 := fun x y H Q => ∃ a b xs ys, x = .ref a ∧ y = .ref b ∧ SqT K H a xs ∧ SqT K H b ys ∧ xs.length + ys.length ≤ sizeLine ∧
  (xs = [] → Q (.ref b) H) ∧ (ys = [] → Q (.ref a) H) ∧ (∀ p o, H p = none → o.dict = none → Q (.ref p) (upd H p (.frz o (.tup (xs ++ ys)))))
theorem op_catF : OpR X (binaryOp .Add) (rCatF X.K) := by
  intro pins s σ H x y v u Q I rx ry h
  obtain ⟨a, b, xs, ys, rfl, rfl, ha, hb, hz, q0, q1, q2⟩ := h
  cases rx
  cases ry
  obtain ⟨its, r1, p1, _⟩ := I.tuple ha
  obtain ⟨its2, r2, p2, _⟩ := I.tuple hb
  by_cases hx : xs = []
  · subst hx
    cases r1
    exact cat_tup0 p1 p2 ⟨.ref b, H, I, rfl, q0 rfl⟩
  · refine HT.cat_tup p1 p2 (fun z => hx (r1.nil_iff.mp z)) (fun z => ⟨.ref a, H, I, rfl, q1 (r2.nil_iff.mp z)⟩) (fun z => ?_) (by rw [← r1.length, ← r2.length]; exact hz)
    refine ⟨.ref s.heap.objs.size, _, I.laid (t' := s.toks) (o := .frz { cls := .type "tuple", data := .seq (its ++ its2).toArray } (.tup (xs ++ ys))) (fun b ob q => Heap.get?_push_of_some _ q) (Nat.le_refl _) ?_, rfl, q2 _ _ (I.hok.fresh (Nat.le_refl _)) rfl⟩
    exact frz_ok (by rw [List.length_append]; exact hz) (r1.append r2) (Heap.get?_push_size _ rfl)
def rSlF (K : PySem.W.Frag) : V → Option Int → Option Int → Hp → VK → Prop := fun x lo hi H Q => ∃ a xs, x = .ref a ∧ SqT K H a xs ∧
  (HT.sIx xs.length 0 lo = 0 ∧ HT.sIx xs.length xs.length hi = xs.length → Q (.ref a) H) ∧ (∀ p o, H p = none → o.dict = none → Q (.ref p) (upd H p (.frz o (.tup (cutV xs lo hi)))))
theorem sl_tupF : SlR X (rSlF X.K) := by
  intro pins s σ H x v vl vu lo hi sl Q I rx hs pl pu h
  obtain ⟨a, xs, rfl, hx, q1, q2⟩ := h
  cases rx
  obtain ⟨its, r, ht, hz⟩ := I.tuple hx
  have hlen : its.toArray.size = xs.length := by rw [List.size_toArray]; exact r.length.symm
  refine ⟨"tuple", _, PyProof.Rows.slot_tuple_getitem.lookup, ht.typeIs, ?_⟩
  by_cases hw : HT.sIx xs.length 0 lo = 0 ∧ HT.sIx xs.length xs.length hi = xs.length
  · exact getItem_tuple_whole ht hs pl pu (by rw [hlen]; exact hw) ⟨.ref a, H, I, rfl, q1 hw⟩
  · refine HT.getItem_tuple_cut ht hs pl pu (by rw [hlen]; exact hw) ?_ (by rw [hlen]; exact hz)
    rw [hlen]
    exact ⟨.ref s.heap.objs.size, _, I.laid (t' := s.toks) (o := .frz { cls := .type "tuple", data := .seq ((its.drop (HT.sIx xs.length 0 lo)).take (HT.sIx xs.length xs.length hi - HT.sIx xs.length 0 lo)).toArray } (.tup (cutV xs lo hi))) (fun b ob q => Heap.get?_push_of_some _ q) (Nat.le_refl _)
      (frz_ok (Nat.le_trans (cutV_length xs lo hi) hz) ((r.drop (HT.sIx xs.length 0 lo)).take (HT.sIx xs.length xs.length hi - HT.sIx xs.length 0 lo)) (Heap.get?_push_size _ rfl)), rfl, q2 _ _ (I.hok.fresh (Nat.le_refl _)) rfl⟩
theorem call_tupleF : CallR X (.type "tuple") (fun xs H Q => ∃ p ys, xs = [.ref p] ∧ ((SqL X.K H p ys ∧ ∀ l o, H l = none → o.dict = none → Q (.ref l) (upd H l (.frz o (.tup ys)))) ∨ (SqT X.K H p ys ∧ Q (.ref p) H))) := by
  intro pins s σ H xs us Q I r h
  obtain ⟨p, ys, rfl, h⟩ := h
  obtain ⟨u, rfl, rx⟩ := vals1 r
  cases rx
  rcases h with ⟨hq, q⟩ | ⟨hq, q⟩
  · obtain ⟨its, r', pl, hz⟩ := I.list hq
    have hlen := r'.length
    refine call_tuple_list pl.isList (fun h' kp => ?_) (by simp only [List.size_toArray] <;> omega)
    have I1 : Inv X pins σ H { s with heap := h' } := I.kept (t' := s.toks) kp
    have I2 : Inv X pins σ (upd H h'.objs.size (.frz { cls := .type "tuple", data := .seq its.toArray } (.tup ys))) { s with heap := h'.push { cls := .type "tuple", data := .seq its.toArray } } :=
      I1.laid (t' := s.toks) (fun b o e => Heap.get?_push_of_some _ e) (Nat.le_refl _) (frz_ok hz r' (Heap.get?_push_size _ rfl))
    exact ⟨.ref h'.objs.size, _, I2, rfl, q _ _ (I1.hok.fresh (Nat.le_refl _)) rfl⟩
  · obtain ⟨its, r', pl, hz⟩ := I.tuple hq
    exact call_tuple_same pl ⟨.ref p, H, I, rfl, q⟩
def tTupRgF (te : L2.St → Hp → (Int → Int → Hp → Prop) → Prop) : TE := fun σ H Q => te σ H fun a b H1 => RgOk a b ∧ ∀ q o, H1 q = none → o.dict = none → Q (.ref q) (upd H1 q (.frz o (.tup (rgV a b))))
theorem pe_tupRgF {e : Expr} {te : L2.St → Hp → (Int → Int → Hp → Prop) → Prop} {p pos : Pos} (hc : X.calm = true) (hg : Gl X "tuple") (hm : X.mg "tuple" = none) (he : PRg X e te) (na : starEach [e] X.env = (false, eval e X.env) :: starEach [] X.env) : PE X (.Call (.Name "tuple" p) [e] [] pos) (tTupRgF te) := by
  refine ⟨fun pins s σ H Q I h => ?_⟩
  refine Call_ (ld_blt I hg hm boot_tuple (PyProof.Rows.callWith_type1 (args_cons (thn (he pins s σ H _ I h) fun x s1 ⟨r, a, b, t, u, v, H1, ex, hr, I1, ok, q⟩ => args_nil ?_) na) na))
  subst ex
  obtain ⟨b1, b2, b3, b4, b5⟩ := ok
  refine call_tuple_range (n := (b - a).toNat) (I1.ok.hd hc) hr (small_one b1 b2 b3 b4) (rangeSize_nat a b) b5 fun h' tk acc hk hi => ?_
  have I2 : Inv X pins σ H1 { s1 with heap := h', toks := tk } := I1.kept hk
  have ea : acc = acc.toList.toArray := by simp
  refine ⟨.ref h'.objs.size, upd H1 h'.objs.size (.frz { cls := .type "tuple", data := .seq acc.toList.toArray } (.tup (rgV a b))), I2.laid (t' := tk) (fun c o e => Heap.get?_push_of_some _ e) (Nat.le_refl _) (frz_ok ?_ (vals_rg hi) ?_), rfl, q _ _ (I2.hok.fresh (Nat.le_refl _)) rfl⟩
  · rw [rgV_length, sizeLine_eq]; omega
  · rw [← ea]; exact Heap.get?_push_size _ rfl
/-- t.index(y), flat items -/
def rIndexT (K : PySem.W.Frag) : V → List V → Hp → VK → Prop := fun x xs H Q => ∃ (a : Addr) (ys : List V) (y : V) (j : Nat) (z : V), x = V.ref a ∧ xs = [y] ∧ SqT K H a ys ∧ flatV y = true ∧ ys.all flatV = true ∧ ys[j]? = some z ∧ eqV z y = true ∧
  (∀ (m : Nat) (z' : V), m < j → ys[m]? = some z' → eqV z' y = false) ∧ Q (.int (j : Nat)) H
theorem mt_tup_indexF : MtR X "tuple.index" (rIndexT X.K) := by
  intro pins s σ H x xs v us Q I rx rxs h
  obtain ⟨a, ys, y, j, z, rfl, rfl, hs, fy, fys, hz, hzj, hno, q⟩ := h
  cases rx
  cases rxs with
  | cons ry rt =>
    rename_i uy ut
    cases rt
    obtain ⟨its, rv, ⟨⟨cls, dd, data, sl⟩, ho, hc, n, hd⟩, hlen⟩ := I.tuple hs
    simp only at hc hd
    subst hc hd
    obtain ⟨u, hu, ru⟩ := rv.get hz
    obtain ⟨hjl, hje⟩ := List.getElem?_eq_some_iff.mp hu
    have hvl := rv.length
    have hj : j < its.toArray.size := by simpa using hjl
    refine call_meets PySem.F.slot_tuple_index ⟨_, ho, rfl⟩ PySem.F.entry_tuple_index (PySem.F.args_tuple_index_2 _ _)
      (TI.tuple_indexAt a its.toArray n dd sl uy (eqU y) j hj ?_ ?_) ⟨ho, fun u' hu' => mem_eqAt ry fy rv fys u' (by simpa using hu'), ?_⟩
    · have e1 : its.toArray[j] = u := by simpa using hje
      rw [e1, eqU_of ru (flat_at fys hz)]
      exact hzj
    · intro m hm hmj
      have hml : m < its.length := by simpa using hm
      have hmy : m < ys.length := by omega
      have hy' : ys[m]? = some ys[m] := List.getElem?_eq_getElem hmy
      obtain ⟨u2, hu2, ru2⟩ := rv.get hy'
      obtain ⟨_, hme⟩ := List.getElem?_eq_some_iff.mp hu2
      have e1 : its.toArray[m] = u2 := by simpa using hme
      rw [e1, eqU_of ru2 (flat_at fys hy')]
      exact hno m _ hmj hy'
    · exact ⟨.int (j : Nat), H, I.tok _, ⟨_, rfl⟩, q⟩
end
abbrev pm (X : Cx) (N : Nm) : Pm := ⟨X.prog, X.w, X.K, N⟩
abbrev C2 := CV → CV → CH → CVK → Prop
abbrev CL := List CV → CH → CVK → Prop
def l2 (m : Pm) (r : C2) : R2 := fun x y H Q => ∃ cx cy G R, Rep m.K H x cx ∧ Rep m.K H y cy ∧ RelH m H G ∧ r cx cy G R ∧ Fin m H R Q
def lL (m : Pm) (r : CL) : List V → Hp → VK → Prop := fun xs H Q => ∃ cs G R, Reps m.K H xs cs ∧ RelH m H G ∧ r cs G R ∧ Fin m H R Q
def l1 (m : Pm) (r : CV → CH → CVK → Prop) : V → Hp → VK → Prop := fun x H Q => ∃ c G R, Rep m.K H x c ∧ RelH m H G ∧ r c G R ∧ Fin m H R Q
def lM (m : Pm) (r : CV → CL) : V → List V → Hp → VK → Prop := fun x xs H Q => ∃ c cs G R, Rep m.K H x c ∧ Reps m.K H xs cs ∧ RelH m H G ∧ r c cs G R ∧ Fin m H R Q
def cOp (r : C2) (Ta Tb : CTE) : CTE := fun τ G R => Ta τ G fun x G1 => Tb τ G1 fun y G2 => r x y G2 R
def cUn (r : CV → CH → CVK → Prop) (Ta : CTE) : CTE := fun τ G R => Ta τ G fun x G1 => r x G1 R
section
variable {m : Pm} {H : Hp} {G : CH} {R : CVK} {Q : VK}
/-- an end that changes nothing -/
theorem Fin.here (f : Fin m H R Q) {v : V} {c : CV} (g : RelH m H G) (h : R c G) (r : Rep m.K H v c) : Q v H := f v c H G h r g .rfl'
theorem Fin.at_a (f : Fin m H R Q) {v : V} (g : RelH m H G) (h : R (.a v) G) : Q v H := f v _ H G h (.a v) g .rfl'
/-- a new object of ours -/
theorem Fin.newO (f : Fin m H R Q) {p : Addr} {o : HO} {co : CO} (g : RelH m H G) (hp : H p = none) (ro : RepO m (upd H p o) p co) (h : R (.a (.ref p)) (cup G p co)) : Q (.ref p) (upd H p o) :=
  f _ _ _ _ h (.a _) (g.newO hp ro) (.new hp)
/-- a new tuple -/
theorem Fin.newT (f : Fin m H R Q) {p : Addr} {o : Obj} {vs : List V} {cs : List CV} (g : RelH m H G) (hp : H p = none) (ho : o.dict = none) (r : Reps m.K H vs cs) (h : R (.tup cs) G) : Q (.ref p) (upd H p (.frz o (.tup vs))) :=
  f _ _ _ _ h (.tup (.of upd_same ho) (r.mono (.new hp))) (g.new hp) (.new hp)
theorem RepO.mkL {p : Addr} {vs : List V} {cs : List CV} (h : H p = some (.lst vs)) (r : Reps m.K H vs cs) : RepO m H p (.lst cs) := ⟨vs, h, r⟩
/-- a new list -/
theorem Fin.newL (f : Fin m H R Q) {p : Addr} {vs : List V} {cs : List CV} (g : RelH m H G) (hp : H p = none) (r : Reps m.K H vs cs) (h : R (.a (.ref p)) (cup G p (.lst cs))) : Q (.ref p) (upd H p (.lst vs)) :=
  f.newO g hp (RepO.mkL upd_same (r.mono (.new hp))) h
/-- a list is written -/
theorem Fin.putL {H : Hp} (f : Fin m H R Q) {p : Addr} {us vs : List V} {cs : List CV} {v : V} {c : CV} (g : RelH m H G) (hp : H p = some (.lst us)) (r : Reps m.K H vs cs) (rc : Rep m.K H v c) (h : R c (cup G p (.lst cs))) : Q v (upd H p (.lst vs)) :=
  have nt : NoTup (H p) := by rw [hp]; trivial
  f _ _ _ _ h (rc.mono (.put nt)) (g.write nt (RepO.mkL upd_same (r.mono (.put nt)))) (.put nt)
theorem RelH.freshO (g : RelH m H G) {p : Addr} (hp : H p = none) : G p = none := g.fresh hp
end
theorem lE_op {X : Cx} {N : Nm} {r : C2} {Ta Tb : CTE} {σ : L2.St} {H : Hp} {Q : VK} (h : lE (pm X N) (cOp r Ta Tb) σ H Q) : tOp (l2 (pm X N) r) (lE (pm X N) Ta) (lE (pm X N) Tb) σ H Q := by
  obtain ⟨τ, G, R, at0, h, fin⟩ := h
  exact ⟨τ, G, _, at0, h, fun v c H1 G1 h1 rv g1 t1 => ⟨τ, G1, _, ⟨at0.s.mono t1, g1⟩, h1, fun v2 c2 H2 G2 h2 rv2 g2 t2 => ⟨c, c2, G2, R, rv.mono t2, rv2, g2, h2, fin.mono (t1.trans t2)⟩⟩⟩
def cAdd : C2
  | .a (.int i), .a (.int j), G, R => R (.a (.int (i + j))) G
  | .a (.str x), .a (.str y), G, R => x.length + y.length ≤ sizeLine ∧ R (.a (.str (x ++ y))) G
  | .tup xs, .tup ys, G, R => xs.length + ys.length ≤ sizeLine ∧ R (.tup (xs ++ ys)) G
  | .a (.ref p), .a (.ref q), G, R => ∃ xs ys, G p = some (.lst xs) ∧ G q = some (.lst ys) ∧ xs.length + ys.length ≤ sizeLine ∧ ∀ l, G l = none → R (.a (.ref l)) (cup G l (.lst (xs ++ ys)))
  | _, _, _, _ => False
def cSub : C2
  | .a (.int i), .a (.int j), G, R => R (.a (.int (i - j))) G
  | _, _, _, _ => False
/-- * of two factors of together less than a hundred million bits -/
def CMulB (i j : Int) : Prop := i.natAbs.log2 + j.natAbs.log2 < 100000000
theorem CMulB.ok {i j : Int} (h : CMulB i j) : IntMulOk i j := by
  have b : ∀ x : Int, Builtin.Int.intBits x ≤ x.natAbs.log2 + 1 := fun x => by
    unfold Builtin.Int.intBits
    split <;> omega
  have h1 := b i
  have h2 := b j
  have h3 : i.natAbs.log2 + j.natAbs.log2 < 100000000 := h
  have e : bitsLine = 134217728 := by decide
  unfold IntMulOk
  intro z
  rw [Bool.and_eq_true] at z
  have z2 := z.2
  unfold Builtin.Int.intTooBig at z2
  have z3 := of_decide_eq_true z2
  rw [e] at z3
  omega
theorem op_mulB {X : Cx} : OpR X (binaryOp .Mult) (rI CMulB fun i j => .int (i * j)) := opI fun _ _ _ _ _ _ _ hc q => mul_int q hc.ok
def cMul : C2
  | .a (.int i), .a (.int j), G, R => CMulB i j ∧ R (.a (.int (i * j))) G
  | .a (.ref p), .a (.int k), G, R => ∃ xs, G p = some (.lst xs) ∧ -(2 ^ 63) ≤ k ∧ k < 2 ^ 63 ∧ xs.length * k.toNat ≤ sizeLine ∧ ∀ l, G l = none → R (.a (.ref l)) (cup G l (.lst (List.replicate k.toNat xs).flatten))
  | _, _, _, _ => False
def cDiv : C2
  | .a (.int i), .a (.int j), G, R => CDivW i j ∧ R (.a (.int (i / j))) G
  | _, _, _, _ => False
def cMod : C2
  | .a (.int i), .a (.int j), G, R => 0 < j ∧ R (.a (.int (i % j))) G
  | _, _, _, _ => False
def cPow : C2
  | .a (.int i), .a (.int j), G, R => (0 ≤ j ∧ (Builtin.Int.intBits i : Int) * j ≤ 2 ^ 27) ∧ R (.a (.int (i ^ j.toNat))) G
  | _, _, _, _ => False
section
variable {X : Cx} {N : Nm}
theorem cop_add : OpR X (binaryOp .Add) (l2 (pm X N) cAdd) := by
  intro pins s σ H x y v u Q I rx ry hh
  obtain ⟨cx, cy, G, R, hx, hy, g, h, fin⟩ := hh
  unfold cAdd at h
  split at h
  · cases hx; cases hy
    exact op_add pins s σ H _ _ v u Q I rx ry ⟨_, _, rfl, rfl, fin.at_a g h⟩
  · cases hx; cases hy
    exact op_add_str pins s σ H _ _ v u Q I rx ry ⟨_, _, rfl, rfl, h.1, fin.at_a g h.2⟩
  · rename_i xs ys
    cases hx with
    | @tup p vs _ ha ra =>
      cases hy with
      | @tup q ws _ hb rb =>
        refine op_catF pins s σ H _ _ v u Q I rx ry ⟨p, q, vs, ws, rfl, rfl, ha.sq, hb.sq, by rw [ra.length, rb.length]; exact h.1, fun e => ?_, fun e => ?_, fun l o hl ho => ?_⟩
        · subst e
          cases ra
          exact fin.here g h.2 (.tup hb rb)
        · subst e
          cases rb
          have h2 := h.2
          rw [List.append_nil] at h2
          exact fin.here g h2 (.tup ha ra)
        · exact fin.newT g hl ho (ra.append rb) h.2
  · cases hx; cases hy
    obtain ⟨xs, ys, e1, e2, hl, k⟩ := h
    obtain ⟨vs, h1, r1⟩ := g _ _ e1
    obtain ⟨ws, h2, r2⟩ := g _ _ e2
    refine op_cat pins s σ H _ _ v u Q I rx ry ⟨_, _, vs, ws, rfl, rfl, h1, h2, by rw [r1.length, r2.length]; exact hl, fun l hl => ?_⟩
    exact fin.newL g hl (r1.append r2) (k l (g.fresh hl))
  · exact h.elim
theorem cop_sub : OpR X (binaryOp .Sub) (l2 (pm X N) cSub) := by
  intro pins s σ H x y v u Q I rx ry hh
  obtain ⟨cx, cy, G, R, hx, hy, g, h, fin⟩ := hh
  unfold cSub at h
  split at h
  · cases hx; cases hy
    exact op_sub pins s σ H _ _ v u Q I rx ry ⟨_, _, rfl, rfl, fin.at_a g h⟩
  · exact h.elim
theorem cop_mul : OpR X (binaryOp .Mult) (l2 (pm X N) cMul) := by
  intro pins s σ H x y v u Q I rx ry hh
  obtain ⟨cx, cy, G, R, hx, hy, g, h, fin⟩ := hh
  unfold cMul at h
  split at h
  · cases hx; cases hy
    exact op_mulB pins s σ H _ _ v u Q I rx ry ⟨_, _, rfl, rfl, h.1, fin.at_a g h.2⟩
  · cases hx; cases hy
    obtain ⟨xs, e1, h1, h2, hl, k⟩ := h
    obtain ⟨vs, hH, r1⟩ := g _ _ e1
    refine op_rep pins s σ H _ _ v u Q I rx ry ⟨_, _, vs, rfl, rfl, hH, h1, h2, by rw [r1.length]; exact hl, fun l hl => ?_⟩
    have : ∀ n : Nat, Reps X.K H (List.replicate n vs).flatten (List.replicate n xs).flatten := by
      intro n
      induction n with
      | zero => exact .nil
      | succ n ih => rw [List.replicate_succ, List.replicate_succ, List.flatten_cons, List.flatten_cons]; exact r1.append ih
    exact fin.newL g hl (this _) (k l (g.fresh hl))
  · exact h.elim
theorem cop_div : OpR X (binaryOp .FloorDiv) (l2 (pm X N) cDiv) := by
  intro pins s σ H x y v u Q I rx ry hh
  obtain ⟨cx, cy, G, R, hx, hy, g, h, fin⟩ := hh
  unfold cDiv at h
  split at h
  · cases hx; cases hy
    exact op_fdivW pins s σ H _ _ v u Q I rx ry ⟨_, _, rfl, rfl, h.1, fin.at_a g h.2⟩
  · exact h.elim
theorem cop_mod : OpR X (binaryOp .Mod) (l2 (pm X N) cMod) := by
  intro pins s σ H x y v u Q I rx ry hh
  obtain ⟨cx, cy, G, R, hx, hy, g, h, fin⟩ := hh
  unfold cMod at h
  split at h
  · cases hx; cases hy
    exact op_mod pins s σ H _ _ v u Q I rx ry ⟨_, _, rfl, rfl, h.1, fin.at_a g h.2⟩
  · exact h.elim
theorem cop_pow : OpR X (binaryOp .Pow) (l2 (pm X N) cPow) := by
  intro pins s σ H x y v u Q I rx ry hh
  obtain ⟨cx, cy, G, R, hx, hy, g, h, fin⟩ := hh
  unfold cPow at h
  split at h
  · cases hx; cases hy
    obtain ⟨t, rfl⟩ := rx
    obtain ⟨t', rfl⟩ := ry
    exact pow_int h.1.1 h.1.2 ⟨.int _, H, I.tok _, ⟨_, rfl⟩, fin.at_a g h.2⟩
  · exact h.elim
end
def cLt : C2
  | .a (.int i), .a (.int j), G, R => R (.a (.bl (decide (i < j)))) G
  | .a (.str x), .a (.str y), G, R => R (.a (.bl (decide (x.cps.toList < y.cps.toList)))) G
  | _, _, _, _ => False
def cLe : C2
  | .a (.int i), .a (.int j), G, R => R (.a (.bl (decide (i ≤ j)))) G
  | _, _, _, _ => False
def cGt : C2
  | .a (.int i), .a (.int j), G, R => R (.a (.bl (decide (j < i)))) G
  | _, _, _, _ => False
def cGe : C2
  | .a (.int i), .a (.int j), G, R => R (.a (.bl (decide (j ≤ i)))) G
  | _, _, _, _ => False
section
variable {X : Cx} {N : Nm}
theorem cop_lt : OpR X (compareOp .Lt) (l2 (pm X N) cLt) := by
  intro pins s σ H x y v u Q I rx ry hh
  obtain ⟨cx, cy, G, R, hx, hy, g, h, fin⟩ := hh
  unfold cLt at h
  split at h
  · cases hx; cases hy
    exact op_lt pins s σ H _ _ v u Q I rx ry ⟨_, _, rfl, rfl, fin.at_a g h⟩
  · cases hx; cases hy
    exact op_lt_str pins s σ H _ _ v u Q I rx ry ⟨_, _, rfl, rfl, fin.at_a g h⟩
  · exact h.elim
theorem cop_le : OpR X (compareOp .LtE) (l2 (pm X N) cLe) := by
  intro pins s σ H x y v u Q I rx ry hh
  obtain ⟨cx, cy, G, R, hx, hy, g, h, fin⟩ := hh
  unfold cLe at h
  split at h
  · cases hx; cases hy
    exact op_le pins s σ H _ _ v u Q I rx ry ⟨_, _, rfl, rfl, fin.at_a g h⟩
  · exact h.elim
theorem cop_gt : OpR X (compareOp .Gt) (l2 (pm X N) cGt) := by
  intro pins s σ H x y v u Q I rx ry hh
  obtain ⟨cx, cy, G, R, hx, hy, g, h, fin⟩ := hh
  unfold cGt at h
  split at h
  · cases hx; cases hy
    exact op_gt pins s σ H _ _ v u Q I rx ry ⟨_, _, rfl, rfl, fin.at_a g h⟩
  · exact h.elim
theorem cop_ge : OpR X (compareOp .GtE) (l2 (pm X N) cGe) := by
  intro pins s σ H x y v u Q I rx ry hh
  obtain ⟨cx, cy, G, R, hx, hy, g, h, fin⟩ := hh
  unfold cGe at h
  split at h
  · cases hx; cases hy
    exact op_ge pins s σ H _ _ v u Q I rx ry ⟨_, _, rfl, rfl, fin.at_a g h⟩
  · exact h.elim
/-- is None -/
def isNon : CV → Bool
  | .a .non => true
  | _ => false
def cIs : C2
  | x, .a .non, G, R => R (.a (.bl (isNon x))) G
  | _, _, _, _ => False
def cIsNot : C2
  | x, .a .non, G, R => R (.a (.bl (!isNon x))) G
  | _, _, _, _ => False
theorem Rep.isNon {K : PySem.W.Frag} {H : Hp} {v : V} {c : CV} (r : Rep K H v c) : decide (v = .non) = isNon c := by
  cases r with
  | a v => cases v <;> rfl
  | tup h q => rfl
theorem cop_is : OpR X (compareOp .Is) (l2 (pm X N) cIs) := by
  intro pins s σ H x y v u Q I rx ry hh
  obtain ⟨cx, cy, G, R, hx, hy, g, h, fin⟩ := hh
  unfold cIs at h
  split at h
  · cases hy
    refine op_isN pins s σ H _ _ v u Q I rx ry ⟨rfl, ?_⟩
    rw [hx.isNon]
    exact fin.at_a g h
  · exact h.elim
theorem cop_isNot : OpR X (compareOp .IsNot) (l2 (pm X N) cIsNot) := by
  intro pins s σ H x y v u Q I rx ry hh
  obtain ⟨cx, cy, G, R, hx, hy, g, h, fin⟩ := hh
  unfold cIsNot at h
  split at h
  · cases hy
    refine op_notN pins s σ H _ _ v u Q I rx ry ⟨rfl, ?_⟩
    rw [hx.isNon]
    exact fin.at_a g h
  · exact h.elim
end
mutual
inductive CDat (G : CH) : CV → PyData → Prop
  | non : CDat G (.a .non) .none
  | bl (b : Bool) : CDat G (.a (.bl b)) (.bool b)
  | int (i : Int) : CDat G (.a (.int i)) (.int i)
  | str (x : Str) : CDat G (.a (.str x)) (.str x)
  | lst {p : Addr} {xs : List CV} {ds : List PyData} : G.seq p = some xs → CDats G xs ds → CDat G (.a (.ref p)) (.list ds)
  | tup {xs : List CV} {ds : List PyData} : CDats G xs ds → CDat G (.tup xs) (.tuple ds)
inductive CDats (G : CH) : List CV → List PyData → Prop
  | nil : CDats G [] []
  | cons {x : CV} {xs : List CV} {d : PyData} {ds : List PyData} : CDat G x d → CDats G xs ds → CDats G (x :: xs) (d :: ds)
end
section
variable {m : Pm} {H : Hp} {G : CH}
mutual
theorem CDat.dp (g : RelH m H G) : ∀ (d : PyData) (v : V) (c : CV), Rep m.K H v c → CDat G c d → Dp m.K H v d
  | .none, _, _, r, h => by cases h; cases r; exact .non
  | .bool b, _, _, r, h => by cases h; cases r; exact .bl b
  | .int i, _, _, r, h => by cases h; cases r; exact .int i
  | .str x, _, _, r, h => by cases h; cases r; exact .str x
  | .list ds, _, _, r, h => by
    cases h with
    | lst e q =>
      cases r
      obtain ⟨vs, h1, h2⟩ := g.seq e
      exact .lst h1 (CDats.dp g ds vs _ h2 q)
  | .tuple ds, _, _, r, h => by
    cases h with
    | tup q =>
      cases r with
      | tup h1 h2 => exact .tup h1.sq (CDats.dp g ds _ _ h2 q)
  | .dict _, _, _, _, h => by cases h
theorem CDats.dp (g : RelH m H G) : ∀ (ds : List PyData) (vs : List V) (cs : List CV), Reps m.K H vs cs → CDats G cs ds → DpAll m.K H vs ds
  | [], _, _, r, h => by cases h; cases r; exact .nil
  | d :: ds, _, _, r, h => by
    cases h with
    | cons h1 h2 =>
      cases r with
      | cons r1 r2 => exact .cons (CDat.dp g d _ _ r1 h1) (CDats.dp g ds _ _ r2 h2)
end
end
def cEq : C2 := fun x y G R => ∃ d e, CDat G x d ∧ CDat G y e ∧ SeqAt.shaped d = true ∧ SeqAt.shaped e = true ∧ R (.a (.bl (PyData.eqv d e))) G
def cNe : C2 := fun x y G R => ∃ d e, CDat G x d ∧ CDat G y e ∧ SeqAt.shaped d = true ∧ SeqAt.shaped e = true ∧ R (.a (.bl (!PyData.eqv d e))) G
section
variable {X : Cx} {N : Nm}
theorem cop_eq (hu : X.A.units + 64 < cLine) : OpR X (compareOp .Eq) (l2 (pm X N) cEq) := by
  intro pins s σ H x y v u Q I rx ry hh
  obtain ⟨cx, cy, G, R, hx, hy, g, h0, fin⟩ := hh
  obtain ⟨d, e, hd, he, sd, se, h⟩ := h0
  exact op_eqD hu pins s σ H _ _ v u Q I rx ry ⟨d, e, hd.dp g _ _ _ hx, he.dp g _ _ _ hy, sd, se, fin.at_a g h⟩
theorem cop_ne (hu : X.A.units + 64 < cLine) : OpR X (compareOp .NotEq) (l2 (pm X N) cNe) := by
  intro pins s σ H x y v u Q I rx ry hh
  obtain ⟨cx, cy, G, R, hx, hy, g, h0, fin⟩ := hh
  obtain ⟨d, e, hd, he, sd, se, h⟩ := h0
  exact op_neD hu pins s σ H _ _ v u Q I rx ry ⟨d, e, hd.dp g _ _ _ hx, he.dp g _ _ _ hy, sd, se, fin.at_a g h⟩
end
mutual
theorem keyOf_eq : ∀ {c : CV} {k : NestedKey}, keyOf c = some k → c = nkV k
  | .a v, k, h => by
    cases v <;> first | (unfold keyOf at h; cases h; rfl) | (unfold keyOf at h; cases h)
  | .tup xs, k, h => by
    unfold keyOf at h
    cases e : keyOf.keysOf xs with
    | none => rw [e] at h; cases h
    | some ks =>
      rw [e] at h
      cases h
      rw [nkV, keysOf_eq e]
theorem keysOf_eq : ∀ {cs : List CV} {ks : List NestedKey}, keyOf.keysOf cs = some ks → cs = nkV.nkVs ks
  | [], ks, h => by unfold keyOf.keysOf at h; cases h; rfl
  | c :: cs, ks, h => by
    unfold keyOf.keysOf at h
    cases e1 : keyOf c with
    | none => rw [e1] at h; cases h
    | some k =>
      cases e2 : keyOf.keysOf cs with
      | none => rw [e1, e2] at h; cases h
      | some r =>
        rw [e1, e2] at h
        cases h
        rw [nkV.nkVs, keyOf_eq e1, keysOf_eq e2]
end
def isTupK : NestedKey → Bool
  | .tup _ => true
  | _ => false
section
variable {X : Cx} {pins : List (Addr × Obj)} {σ : L2.St} {H : Hp} {s : Shared}
mutual
theorem nested_of (I : Inv X pins σ H s) : ∀ (k : NestedKey) (v : V) (u : Value), Rep X.K H v (nkV k) → RelV v u → NestedIs s.heap k u
  | .none, v, u, r, rv => by
    unfold nkV at r
    cases r
    cases rv
    exact .none
  | .num i, v, u, r, rv => by
    unfold nkV at r
    cases r
    obtain ⟨t, rfl⟩ := rv
    exact .int i t
  | .text x, v, u, r, rv => by
    unfold nkV at r
    cases r
    obtain ⟨t, rfl⟩ := rv
    exact .text x t
  | .tup ks, v, u, r, rv => by
    unfold nkV at r
    cases r with
    | @tup p vs _ h1 h2 =>
      cases rv
      obtain ⟨its, rv2, ⟨o, ho, hc, n, hd⟩, _⟩ := I.tuple h1.sq
      exact .tup ho hc hd (by simpa using nesteds_of I ks vs its h2 rv2)
theorem nesteds_of (I : Inv X pins σ H s) : ∀ (ks : List NestedKey) (vs : List V) (us : List Value), Reps X.K H vs (nkV.nkVs ks) → Vals vs us → NestedAll s.heap ks us
  | [], vs, us, r, rv => by
    unfold nkV.nkVs at r
    cases r
    cases rv
    exact .nil
  | k :: ks, vs, us, r, rv => by
    unfold nkV.nkVs at r
    cases r with
    | cons r1 r2 =>
      cases rv with
      | cons q1 q2 => exact .cons (nested_of I k _ _ r1 q1) (nesteds_of I ks _ _ r2 q2)
end
abbrev nk (X : Cx) := nestedKind X.prog X.w
theorem YC.get {xs : List (NestedKey × Addr × V)} {ys : List (NestedKey × Addr × Value)} (r : YC xs ys) : ∀ y ∈ ys, ∃ x ∈ xs, x.1 = y.1 ∧ x.2.1 = y.2.1 ∧ RelV x.2.2 y.2.2 := by
  induction r with
  | nil => intro y hy; cases hy
  | cons h t ih =>
    intro y hy
    rcases List.mem_cons.mp hy with e | hy
    · subst e; exact ⟨_, List.mem_cons_self, h⟩
    · obtain ⟨x, hx, q⟩ := ih y hy; exact ⟨x, List.mem_cons_of_mem _ hx, q⟩
theorem YC.keys {xs : List (NestedKey × Addr × V)} {ys : List (NestedKey × Addr × Value)} (r : YC xs ys) : xs.map (·.1) = ys.map (·.1) := by
  induction r with
  | nil => rfl
  | cons h t ih => rw [List.map_cons, List.map_cons, h.1, ih]
theorem TC.get {K : PySem.W.Frag} {xs : List (NestedKey × Addr × V)} {kvs : List (NestedKey × CV)} (r : TC K H xs kvs) : ∀ x ∈ xs, Rep K H (.ref x.2.1) (nkV x.1) ∧ x.1.depth ≤ 8 := by
  induction r with
  | nil => intro x hx; cases hx
  | cons h t ih =>
    intro x hx
    rcases List.mem_cons.mp hx with e | hx
    · subst e; exact ⟨h.2.1, h.2.2.1⟩
    · exact ih x hx
theorem dit_of {d : Addr} {xs : List (NestedKey × Addr × V)} {kvs : List (NestedKey × CV)} (I : Inv X pins σ H s) (e : H d = some (DitE X.prog X.w d xs)) (tk : TC X.K H xs kvs) :
    (d == sysModules) = false ∧ xs.length ≤ sizeLine ∧ (xs.map (·.1)).Nodup ∧ ∃ ys, YC xs ys ∧ s.heap.DictOfH (nk X) d ys := by
  obtain ⟨⟨h1, h2, h3, ys, h4, o, es, ep, h5, h6, h7, h8⟩, _, _⟩ := I.hok d _ e
  refine ⟨h1, h2, h3, ys, h4, o, es, ep, h5, h6, h7, h8, fun y hy => ?_, by rw [← h4.keys]; exact h3⟩
  obtain ⟨x, hx, e1, e2, _⟩ := h4.get y hy
  obtain ⟨q1, q2⟩ := tk.get x hx
  rw [← e1, ← e2]
  exact ⟨nested_of I _ _ _ q1 rfl, q2⟩
/-- what a dict holds -/
def dval (kvs : List (NestedKey × CV)) (k : NestedKey) : Option CV := (kvs.find? fun p => decide (p.1 = k)).map (·.2)
def dput (kvs : List (NestedKey × CV)) (k : NestedKey) (c : CV) : List (NestedKey × CV) := if kvs.any (fun p => decide (p.1 = k)) then kvs.map (fun p => if p.1 = k then (p.1, c) else p) else kvs ++ [(k, c)]
theorem dval_nil {k : NestedKey} : dval [] k = none := rfl
theorem dval_cons {p : NestedKey × CV} {r : List (NestedKey × CV)} {k : NestedKey} : dval (p :: r) k = if p.1 = k then some p.2 else dval r k := by
  unfold dval
  by_cases h : p.1 = k <;> simp [List.find?_cons, h]
theorem tval : ∀ {xs : List (NestedKey × Addr × V)} {ys : List (NestedKey × Addr × Value)} {kvs : List (NestedKey × CV)} {K : PySem.W.Frag} (_ : TC K H xs kvs) (_ : YC xs ys) (k : NestedKey),
    match dval kvs k with
    | some c => ∃ v u, (atKey ys k).map (·.2) = some u ∧ RelV v u ∧ Rep K H v c
    | none => atKey ys k = none
  | [], [], [], K, _, _, k => rfl
  | x :: xs, y :: ys, q :: kvs, K, .cons h t, .cons h' t', k => by
    rw [dval_cons]
    by_cases z : q.1 = k
    · rw [if_pos z]
      refine ⟨x.2.2, y.2.2, ?_, h'.2.2, h.2.2.2⟩
      have e : y.1 = k := by rw [← h'.1, h.1]; exact z
      simp [atKey, List.find?_cons, e]
    · rw [if_neg z]
      have e : ¬ y.1 = k := by rw [← h'.1, h.1]; exact z
      have e2 : atKey (y :: ys) k = atKey ys k := by simp [atKey, List.find?_cons, e]
      rw [e2]
      exact tval t t' k
theorem tval_some {xs : List (NestedKey × Addr × V)} {ys : List (NestedKey × Addr × Value)} {kvs : List (NestedKey × CV)} {K : PySem.W.Frag} {c : CV} (t : TC K H xs kvs) (y : YC xs ys) {k : NestedKey} (h : dval kvs k = some c) :
    ∃ v p, atKey ys k = some p ∧ RelV v p.2 ∧ Rep K H v c := by
  have q := tval t y k
  rw [h] at q
  obtain ⟨v, u, e, r, rc⟩ := q
  obtain ⟨p, hp, rfl⟩ := Option.map_eq_some_iff.mp e
  exact ⟨v, p, hp, r, rc⟩
theorem tval_none {xs : List (NestedKey × Addr × V)} {ys : List (NestedKey × Addr × Value)} {kvs : List (NestedKey × CV)} {K : PySem.W.Frag} (t : TC K H xs kvs) (y : YC xs ys) {k : NestedKey} (h : dval kvs k = none) : atKey ys k = none := by
  have q := tval t y k
  rw [h] at q
  exact q
theorem tval_is {xs : List (NestedKey × Addr × V)} {ys : List (NestedKey × Addr × Value)} {kvs : List (NestedKey × CV)} {K : PySem.W.Frag} (t : TC K H xs kvs) (y : YC xs ys) (k : NestedKey) : (atKey ys k).isSome = (dval kvs k).isSome := by
  cases e : dval kvs k with
  | none => rw [tval_none t y e] <;> rfl
  | some c => obtain ⟨v, p, e2, _⟩ := tval_some t y e; rw [e2] <;> rfl
def xput (xs : List (NestedKey × Addr × V)) (k : NestedKey) (b : Addr) (v : V) : List (NestedKey × Addr × V) := if xs.any (fun p => decide (p.1 = k)) then xs.map (fun p => if p.1 = k then (p.1, p.2.1, v) else p) else xs ++ [(k, b, v)]
theorem any_keys {α β : Type} (f : α → NestedKey) (g : β → NestedKey) (k : NestedKey) : ∀ {xs : List α} {ys : List β}, xs.map f = ys.map g → (xs.any fun p => decide (f p = k)) = ys.any fun p => decide (g p = k)
  | [], [], _ => rfl
  | x :: xs, y :: ys, h => by
    rw [List.map_cons, List.map_cons] at h
    injection h with h1 h2
    rw [List.any_cons, List.any_cons, h1, any_keys f g k h2]
  | [], _ :: _, h => by cases h
  | _ :: _, [], h => by cases h
theorem TC.keys {K : PySem.W.Frag} {xs : List (NestedKey × Addr × V)} {kvs : List (NestedKey × CV)} (r : TC K H xs kvs) : xs.map (·.1) = kvs.map (·.1) := by
  induction r with
  | nil => rfl
  | cons h t ih => rw [List.map_cons, List.map_cons, h.1, ih]
theorem atKey_any (k : NestedKey) : ∀ ys : List (NestedKey × Addr × Value), (atKey ys k).isSome = ys.any fun p => decide (p.1 = k)
  | [] => rfl
  | y :: ys => by
    have ih := atKey_any k ys
    unfold atKey at ih ⊢
    rw [List.any_cons]
    by_cases z : y.1 = k
    · simp [List.find?_cons, z]
    · simp only [List.find?_cons, z, decide_false, Bool.false_or]
      exact ih
theorem YC.put {xs : List (NestedKey × Addr × V)} {ys : List (NestedKey × Addr × Value)} (r : YC xs ys) (k : NestedKey) (b : Addr) {v : V} {u : Value} (rv : RelV v u) : YC (xput xs k b v) (storedH ys k b u) := by
  have e : (xs.any fun p => decide (p.1 = k)) = (atKey ys k).isSome := by
    rw [any_keys (fun p : NestedKey × Addr × V => p.1) (fun p : NestedKey × Addr × Value => p.1) k r.keys, atKey_any]
  unfold xput storedH
  rw [e]
  cases h : (atKey ys k).isSome with
  | false =>
    simp only [Bool.false_eq_true, if_false]
    have : ∀ {xs : List (NestedKey × Addr × V)} {ys : List (NestedKey × Addr × Value)}, YC xs ys → YC (xs ++ [(k, b, v)]) (ys ++ [(k, b, u)]) := by
      intro xs ys r
      induction r with
      | nil => exact .cons ⟨rfl, rfl, rv⟩ .nil
      | cons h t ih => exact .cons h ih
    exact this r
  | true =>
    simp only [if_true]
    have : ∀ {xs : List (NestedKey × Addr × V)} {ys : List (NestedKey × Addr × Value)}, YC xs ys → YC (xs.map (fun p => if p.1 = k then (p.1, p.2.1, v) else p)) (ys.map (putAt k u)) := by
      intro xs ys r
      induction r with
      | nil => exact .nil
      | @cons p q ps qs h t ih =>
        refine .cons ?_ ih
        unfold putAt
        dsimp only
        by_cases z : p.1 = k
        · have z2 : q.1 = k := by rw [← h.1]; exact z
          rw [if_pos z, if_pos z2]
          exact ⟨h.1, h.2.1, rv⟩
        · have z2 : ¬ q.1 = k := by rw [← h.1]; exact z
          rw [if_neg z, if_neg z2]
          exact h
    exact this r
theorem TC.put {K : PySem.W.Frag} {xs : List (NestedKey × Addr × V)} {kvs : List (NestedKey × CV)} (r : TC K H xs kvs) {k : NestedKey} {b : Addr} {v : V} {c : CV} (rb : Rep K H (.ref b) (nkV k)) (hd : k.depth ≤ 8) (rc : Rep K H v c) : TC K H (xput xs k b v) (dput kvs k c) := by
  have e : (xs.any fun p => decide (p.1 = k)) = kvs.any fun p => decide (p.1 = k) := any_keys (fun p : NestedKey × Addr × V => p.1) (fun p : NestedKey × CV => p.1) k r.keys
  unfold xput dput
  rw [e]
  cases h : (kvs.any fun p => decide (p.1 = k)) with
  | false =>
    simp only [Bool.false_eq_true, if_false]
    have : ∀ {xs : List (NestedKey × Addr × V)} {kvs : List (NestedKey × CV)}, TC K H xs kvs → TC K H (xs ++ [(k, b, v)]) (kvs ++ [(k, c)]) := by
      intro xs kvs r
      induction r with
      | nil => exact .cons ⟨rfl, rb, hd, rc⟩ .nil
      | cons h t ih => exact .cons h ih
    exact this r
  | true =>
    simp only [if_true]
    have : ∀ {xs : List (NestedKey × Addr × V)} {kvs : List (NestedKey × CV)}, TC K H xs kvs → TC K H (xs.map (fun p => if p.1 = k then (p.1, p.2.1, v) else p)) (kvs.map fun p => if p.1 = k then (p.1, c) else p) := by
      intro xs kvs r
      induction r with
      | nil => exact .nil
      | @cons p q ps qs h t ih =>
        refine .cons ?_ ih
        dsimp only
        by_cases z : p.1 = k
        · have z2 : q.1 = k := by rw [← h.1]; exact z
          rw [if_pos z, if_pos z2]
          exact ⟨h.1, h.2.1, h.2.2.1, rc⟩
        · have z2 : ¬ q.1 = k := by rw [← h.1]; exact z
          rw [if_neg z, if_neg z2]
          exact h
    exact this r
theorem dput_len (kvs : List (NestedKey × CV)) (k : NestedKey) (c : CV) : (dput kvs k c).length ≤ kvs.length + 1 := by
  unfold dput
  split
  · rw [List.length_map]; omega
  · rw [List.length_append]; exact Nat.le_refl _
theorem TC.length {K : PySem.W.Frag} {xs : List (NestedKey × Addr × V)} {kvs : List (NestedKey × CV)} (r : TC K H xs kvs) : xs.length = kvs.length := Paired.length r
theorem xput_nodup {xs : List (NestedKey × Addr × V)} {k : NestedKey} {b : Addr} {v : V} (h : (xs.map (·.1)).Nodup) : ((xput xs k b v).map (·.1)).Nodup := by
  unfold xput
  split
  · have : (xs.map (fun p => if p.1 = k then (p.1, p.2.1, v) else p)).map (·.1) = xs.map (·.1) := by
      rw [List.map_map]
      apply List.map_congr_left
      intro p _
      simp only [Function.comp]
      split <;> rfl
    rw [this]; exact h
  · rename_i hn
    rw [List.map_append]
    refine List.nodup_append.mpr ⟨h, by simp, ?_⟩
    intro a ha b' hb e
    have hb2 : b' = k := by simpa using hb
    subst hb2 e
    obtain ⟨p, hp, e⟩ := List.mem_map.mp ha
    exact hn (List.any_eq_true.mpr ⟨p, hp, decide_eq_true e⟩)
theorem kval : ∀ {ks : List (Key × V)} {kvs : List (NestedKey × CV)} {K : PySem.W.Frag} (_ : KC K H ks kvs) (k : Key),
    match dval kvs (nkK k) with
    | some c => ∃ v, valV ks k = some v ∧ Rep K H v c
    | none => valV ks k = none
  | [], [], K, _, k => rfl
  | x :: xs, q :: kvs, K, .cons h t, k => by
    rw [dval_cons]
    by_cases z : q.1 = nkK k
    · rw [if_pos z]
      exact ⟨x.2, valV_pos (nkK_inj (h.1.trans z)), h.2⟩
    · rw [if_neg z]
      have e : ¬ x.1 = k := fun e => z (by rw [← h.1, e])
      rw [valV_neg e]
      exact kval t k
theorem kval_some {ks : List (Key × V)} {kvs : List (NestedKey × CV)} {K : PySem.W.Frag} {c : CV} (t : KC K H ks kvs) {k : Key} (h : dval kvs (nkK k) = some c) : ∃ v, valV ks k = some v ∧ Rep K H v c := by
  have q := kval t k
  rw [h] at q
  exact q
theorem kval_none {ks : List (Key × V)} {kvs : List (NestedKey × CV)} {K : PySem.W.Frag} (t : KC K H ks kvs) {k : Key} (h : dval kvs (nkK k) = none) : valV ks k = none := by
  have q := kval t k
  rw [h] at q
  exact q
theorem kval_is {ks : List (Key × V)} {kvs : List (NestedKey × CV)} {K : PySem.W.Frag} (t : KC K H ks kvs) (k : Key) : (valV ks k).isSome = (dval kvs (nkK k)).isSome := by
  cases e : dval kvs (nkK k) with
  | none => rw [kval_none t e] <;> rfl
  | some c => obtain ⟨v, e2, _⟩ := kval_some t e; rw [e2] <;> rfl
theorem KC.keys {K : PySem.W.Frag} {ks : List (Key × V)} {kvs : List (NestedKey × CV)} (r : KC K H ks kvs) : ks.map (fun p => nkK p.1) = kvs.map (·.1) := by
  induction r with
  | nil => rfl
  | cons h t ih => rw [List.map_cons, List.map_cons, h.1, ih]
theorem KC.put {K : PySem.W.Frag} {ks : List (Key × V)} {kvs : List (NestedKey × CV)} (r : KC K H ks kvs) (k : Key) {v : V} {c : CV} (rc : Rep K H v c) : KC K H (putK ks k v) (dput kvs (nkK k) c) := by
  have e : (ks.any fun kv => decide (kv.1 = k)) = kvs.any fun p => decide (p.1 = nkK k) := by
    rw [← any_keys (fun p : Key × V => nkK p.1) (fun p : NestedKey × CV => p.1) (nkK k) r.keys]
    congr 1
    funext p
    by_cases z : p.1 = k
    · simp [z]
    · have : ¬ nkK p.1 = nkK k := fun e => z (nkK_inj e)
      simp [z, this]
  unfold putK dput
  rw [e]
  cases h : (kvs.any fun p => decide (p.1 = nkK k)) with
  | false =>
    simp only [Bool.false_eq_true, if_false]
    have : ∀ {ks : List (Key × V)} {kvs : List (NestedKey × CV)}, KC K H ks kvs → KC K H (ks ++ [(k, v)]) (kvs ++ [(nkK k, c)]) := by
      intro ks kvs r
      induction r with
      | nil => exact .cons ⟨rfl, rc⟩ .nil
      | cons h t ih => exact .cons h ih
    exact this r
  | true =>
    simp only [if_true]
    have : ∀ {ks : List (Key × V)} {kvs : List (NestedKey × CV)}, KC K H ks kvs → KC K H (ks.map fun kv => if kv.1 = k then (kv.1, v) else kv) (kvs.map fun p => if p.1 = nkK k then (p.1, c) else p) := by
      intro ks kvs r
      induction r with
      | nil => exact .nil
      | @cons p q ps qs h t ih =>
        refine .cons ?_ ih
        dsimp only
        by_cases z : p.1 = k
        · have z2 : q.1 = nkK k := by rw [← h.1, z]
          rw [if_pos z, if_pos z2]
          exact ⟨h.1, rc⟩
        · have z2 : ¬ q.1 = nkK k := fun e => z (nkK_inj (h.1.trans e))
          rw [if_neg z, if_neg z2]
          exact h
    exact this r
end
/-- the key of a clean value, where it is an int or a text -/
def leafK : NestedKey → Option Key
  | .num i => some (.inl i)
  | .text x => some (.inr x)
  | _ => none
theorem leafK_eq {k : NestedKey} {j : Key} (h : leafK k = some j) : nkK j = k ∧ nkV k = .a (kV j) := by
  cases k with
  | num i => cases h; exact ⟨rfl, by unfold nkV; rfl⟩
  | text x => cases h; exact ⟨rfl, by unfold nkV; rfl⟩
  | none => cases h
  | tup ks => cases h
/-- whether a key may stand in a dict of this kind -/
def okK (t : Bool) (k : NestedKey) : Bool := match t with
  | true => isTupK k && decide (k.depth ≤ 8)
  | false => (leafK k).isSome
def DictAt (G : CH) (c : CV) (x : CV) (K : Bool → List (NestedKey × CV) → Addr → NestedKey → Prop) : Prop := match c with
  | .a (.ref p) => (match G p with
    | some (.dic t kvs) => (match keyOf x with
      | some k => okK t k = true ∧ K t kvs p k
      | none => False)
    | _ => False)
  | _ => False
theorem DictAt.elim {G : CH} {c x : CV} {K : Bool → List (NestedKey × CV) → Addr → NestedKey → Prop} (h : DictAt G c x K) : ∃ p t kvs k, c = .a (.ref p) ∧ G p = some (.dic t kvs) ∧ keyOf x = some k ∧ okK t k = true ∧ K t kvs p k := by
  unfold DictAt at h
  split at h
  · split at h
    · split at h
      · exact ⟨_, _, _, _, rfl, by assumption, by assumption, h.1, h.2⟩
      · exact h.elim
    · exact h.elim
  · exact h.elim
section
variable {X : Cx} {N : Nm} {pins : List (Addr × Obj)} {σ : L2.St} {H : Hp} {s : Shared} {G : CH}
theorem tup_key {x : CV} {k : NestedKey} {v : V} {u : Value} (I : Inv X pins σ H s) (hk : keyOf x = some k) (ok : okK true k = true) (r : Rep X.K H v x) (rv : RelV v u) : ∃ b, v = .ref b ∧ u = .ref b ∧ (nk X).is s.heap k b ∧ Rep X.K H (.ref b) (nkV k) ∧ k.depth ≤ 8 := by
  have e := keyOf_eq hk
  have ok2 := Bool.and_eq_true_iff.mp (show (isTupK k && decide (k.depth ≤ 8)) = true from ok)
  have hd := of_decide_eq_true ok2.2
  rw [e] at r
  have ni := nested_of I k v u r rv
  cases k with
  | tup ks =>
    unfold nkV at r
    cases r with
    | @tup p vs _ h1 h2 =>
      cases rv
      exact ⟨p, rfl, rfl, ⟨ni, hd⟩, by unfold nkV; exact .tup h1 h2, hd⟩
  | none => cases ok2.1
  | num i => cases ok2.1
  | text z => cases ok2.1
theorem leaf_key {x : CV} {k : NestedKey} {v : V} (hk : keyOf x = some k) (ok : okK false k = true) (r : Rep X.K H v x) : ∃ j, nkK j = k ∧ v = kV j := by
  have e := keyOf_eq hk
  obtain ⟨j, hj⟩ := Option.isSome_iff_exists.mp (show (leafK k).isSome = true from ok)
  obtain ⟨e1, e2⟩ := leafK_eq hj
  rw [e, e2] at r
  exact ⟨j, e1, r.at_a⟩
theorem nk_room {A : Around} (hu : A.units + 64 < cLine) : (nk X).room A.in1 := by
  show A.in1.units + 8 < cLine
  show A.units + 1 + 8 < cLine
  omega
/-- d[x], there -/
theorem d3_get {c x : CV} {R : CVK} {Q : VK} {vd vx : V} {ud ux : Value} (hu : X.A.units + 64 < cLine) (I : Inv X pins σ H s) (g : RelH (pm X N) H G) (rd : Rep X.K H vd c) (rx : Rep X.K H vx x) (qd : RelV vd ud) (qx : RelV vx ux) (fin : Fin (pm X N) H R Q)
    (h : DictAt G c x fun _ kvs _ k => ∃ c, dval kvs k = some c ∧ R c G) : s.TypeIs ud "dict" ∧ wpAny (model X.prog X.w) X.A (getItem ud ux) (EP X pins σ Q) X.xe s := by
  obtain ⟨p, t, kvs, k, rfl, hG, hk, ok, c, hv, hR⟩ := h.elim
  cases rd
  cases qd
  cases t with
  | false =>
    obtain ⟨ks, hH, kc⟩ := g _ _ hG
    obtain ⟨j, rfl, rfl⟩ := leaf_key hk ok rx
    obtain ⟨v, e, rv⟩ := kval_some kc hv
    have dg : DGet H p (kV j) (some v) := by rw [← e]; exact .k hH
    exact ⟨dict_typeIs I dg, d_getItem (by omega) I dg qx fun w' s3 I3 rw' => ⟨v, H, I3, rw', fin.here g hR rv⟩⟩
  | true =>
    obtain ⟨xs, hH, tc⟩ := g _ _ hG
    obtain ⟨b, rfl, rfl, hi, _, _⟩ := tup_key I hk ok rx qx
    obtain ⟨h1, h2, h3, ys, yc, dd⟩ := dit_of I hH tc
    obtain ⟨v, pv, e, rv, rc⟩ := tval_some tc yc hv
    exact ⟨dd.typeIs, wpAny_getItem_heap (nk_room hu) hi dd e ⟨v, H, I.tok _, rv, fin.here g hR rc⟩⟩
end
theorem dit_ok {P : Program} {w : World} {H : Hp} {h : Heap} {d : Addr} {xs : List (NestedKey × Addr × V)} {ys : List (NestedKey × Addr × Value)} (h1 : (d == sysModules) = false) (h2 : xs.length ≤ sizeLine) (h3 : (xs.map (·.1)).Nodup) (h4 : YC xs ys)
    (h5 : h.DictOfH (nestedKind P w) d ys) : ObjOk P w H h d (DitE P w d xs) := by
  obtain ⟨o, es, ep, e1, e2, e3, e4, _, _⟩ := h5
  exact ⟨⟨h1, h2, h3, ys, h4, o, es, ep, e1, e2, e3, e4⟩, ⟨o, e1⟩, fun g1 g2 q k => by
    obtain ⟨q1, q2, q3, ys', q4, o', es', ep', q5, q6⟩ := q
    exact ⟨q1, q2, q3, ys', q4, o', es', ep', k _ q5, q6⟩⟩
theorem RepO.mkK {m : Pm} {H : Hp} {p : Addr} {ks : List (Key × V)} {kvs : List (NestedKey × CV)} (h : H p = some (.dK ks)) (r : KC m.K H ks kvs) : RepO m H p (.dic false kvs) := ⟨ks, h, r⟩
theorem RepO.mkT {m : Pm} {H : Hp} {p : Addr} {xs : List (NestedKey × Addr × V)} {kvs : List (NestedKey × CV)} (h : H p = some (DitE m.P m.w p xs)) (r : TC m.K H xs kvs) : RepO m H p (.dic true kvs) := ⟨xs, h, r⟩
theorem mut_dit {P : Program} {w : World} {d : Addr} {xs : List (NestedKey × Addr × V)} : Mut (some (DitE P w d xs)) := trivial
section
variable {X : Cx} {N : Nm} {pins : List (Addr × Obj)} {σ : L2.St} {H : Hp} {s : Shared} {G : CH}
/-- x in d, x not in d -/
theorem d3_in {c x : CV} {R : CVK} {Q : VK} {vd vx : V} {ud ux : Value} (hu : X.A.units + 64 < cLine) (I : Inv X pins σ H s) (g : RelH (pm X N) H G) (rd : Rep X.K H vd c) (rx : Rep X.K H vx x) (qd : RelV vd ud) (qx : RelV vx ux) (fin : Fin (pm X N) H R Q)
    (h : DictAt G c x fun _ kvs _ k => R (.a (.bl (dval kvs k).isSome)) G) : wpAny (model X.prog X.w) X.A (compareOp .In ux ud) (EP X pins σ Q) X.xe s := by
  obtain ⟨p, t, kvs, k, rfl, hG, hk, ok, hR⟩ := h.elim
  cases rd
  cases qd
  cases t with
  | false =>
    obtain ⟨ks, hH, kc⟩ := g _ _ hG
    obtain ⟨j, rfl, rfl⟩ := leaf_key hk ok rx
    refine d_in (by omega) I (DGet.k hH) qx fun s3 I3 => ⟨.bl _, H, I3, rfl, ?_⟩
    rw [kval_is kc]
    exact fin.at_a g hR
  | true =>
    obtain ⟨xs, hH, tc⟩ := g _ _ hG
    obtain ⟨b, rfl, rfl, hi, _, _⟩ := tup_key I hk ok rx qx
    obtain ⟨h1, h2, h3, ys, yc, dd⟩ := dit_of I hH tc
    refine wpAny_in_heap (nk_room hu) hi h1 dd ⟨.bl _, H, I.tok _, rfl, ?_⟩
    rw [tval_is tc yc]
    exact fin.at_a g hR
theorem d3_notIn {c x : CV} {R : CVK} {Q : VK} {vd vx : V} {ud ux : Value} (hu : X.A.units + 64 < cLine) (I : Inv X pins σ H s) (g : RelH (pm X N) H G) (rd : Rep X.K H vd c) (rx : Rep X.K H vx x) (qd : RelV vd ud) (qx : RelV vx ux) (fin : Fin (pm X N) H R Q)
    (h : DictAt G c x fun _ kvs _ k => R (.a (.bl (!(dval kvs k).isSome))) G) : wpAny (model X.prog X.w) X.A (compareOp .NotIn ux ud) (EP X pins σ Q) X.xe s := by
  obtain ⟨p, t, kvs, k, rfl, hG, hk, ok, hR⟩ := h.elim
  cases rd
  cases qd
  cases t with
  | false =>
    obtain ⟨ks, hH, kc⟩ := g _ _ hG
    obtain ⟨j, rfl, rfl⟩ := leaf_key hk ok rx
    refine d_notIn (by omega) I (DGet.k hH) qx fun s3 I3 => ⟨.bl _, H, I3, rfl, ?_⟩
    rw [kval_is kc]
    exact fin.at_a g hR
  | true =>
    obtain ⟨xs, hH, tc⟩ := g _ _ hG
    obtain ⟨b, rfl, rfl, hi, _, _⟩ := tup_key I hk ok rx qx
    obtain ⟨h1, h2, h3, ys, yc, dd⟩ := dit_of I hH tc
    refine wpAny_notIn_heap (nk_room hu) hi h1 dd ⟨.bl _, H, I.tok _, rfl, ?_⟩
    rw [tval_is tc yc]
    exact fin.at_a g hR
/-- d[x] = y -/
theorem d3_set {c x y : CV} {Rn : CH → Prop} {Qn : Hp → Prop} {vd vx vy : V} {ud ux uy : Value} (hu : X.A.units + 64 < cLine) (I : Inv X pins σ H s) (g : RelH (pm X N) H G) (rd : Rep X.K H vd c) (rx : Rep X.K H vx x) (ry : Rep X.K H vy y) (qd : RelV vd ud) (qx : RelV vx ux) (qy : RelV vy uy)
    (fin : ∀ H' G', Rn G' → RelH (pm X N) H' G' → TupSub X.K H H' → Qn H') (h : DictAt G c x fun t kvs p k => kvs.length < sizeLine ∧ Rn (cup G p (.dic t (dput kvs k y)))) :
    wpAny (model X.prog X.w) X.A (setItem ud ux uy) (fun _ s' => ∃ H', Inv X pins σ H' s' ∧ Qn H') X.xe s := by
  obtain ⟨p, t, kvs, k, rfl, hG, hk, ok, hl, hR⟩ := h.elim
  cases rd
  cases qd
  cases t with
  | false =>
    obtain ⟨ks, hH, kc⟩ := g _ _ hG
    obtain ⟨j, rfl, rfl⟩ := leaf_key hk ok rx
    have nt : NoTup (H p) := by rw [hH]; trivial
    have el : ks.length = kvs.length := Paired.length kc
    refine d_setItem (by omega) I (DPut.k hH (by omega)) qx qy fun s3 I3 => ⟨_, I3, fin _ _ hR (g.write nt ?_) (.put nt)⟩
    have kc2 : KC X.K (upd H p (.dK (putK ks j vy))) ks kvs := Paired.mono (fun a b z => ⟨z.1, z.2.mono (.put nt)⟩) kc
    exact ⟨_, upd_same, kc2.put j (ry.mono (.put nt))⟩
  | true =>
    obtain ⟨xs, hH, tc⟩ := g _ _ hG
    obtain ⟨b, rfl, rfl, hi, rb, hd⟩ := tup_key I hk ok rx qx
    obtain ⟨h1, h2, h3, ys, yc, dd⟩ := dit_of I hH tc
    have nt : NoTup (H p) := by rw [hH]; trivial
    have el : xs.length = kvs.length := Paired.length tc
    have el2 : xs.length = ys.length := Paired.length yc
    refine wpAny_setItem_heap (hsz := by omega) (nk_room hu) hi dd fun h' dd' hs => ?_
    have he : ∃ q, h'.get? p = some q := let ⟨q, _, _, hq, _⟩ := dd'; ⟨q, hq⟩
    have hxl : (xput xs k b vy).length ≤ sizeLine := by
      have q := (TC.put tc rb hd ry).length
      have q2 := dput_len kvs k y
      omega
    have I3 := d_write (ob := DitE X.prog X.w p (xput xs k b vy)) (t' := s.toks + (nk X).draws k) I (by rw [hH]; trivial) hs he (dit_ok h1 hxl (xput_nodup h3) (yc.put k b qy) dd')
    refine ⟨_, I3, fin _ _ hR (g.write nt ?_) (.put nt)⟩
    have tc2 : TC X.K (upd H p (DitE X.prog X.w p (xput xs k b vy))) xs kvs := Paired.mono (fun a b z => ⟨z.1, z.2.1.mono (.put nt), z.2.2.1, z.2.2.2.mono (.put nt)⟩) tc
    exact ⟨_, upd_same, tc2.put (rb.mono (.put nt)) hd (ry.mono (.put nt))⟩
/-- d.get(x), d.get(x, y) -/
theorem d3_get1 {c x : CV} {R : CVK} {Q : VK} {vd vx : V} {ud ux : Value} (hu : X.A.units + 64 < cLine) (I : Inv X pins σ H s) (g : RelH (pm X N) H G) (rd : Rep X.K H vd c) (rx : Rep X.K H vx x) (qd : RelV vd ud) (qx : RelV vx ux) (fin : Fin (pm X N) H R Q)
    (h : DictAt G c x fun _ kvs _ k => R ((dval kvs k).getD (.a .non)) G) : wpAny (model X.prog X.w) X.A (call (.builtin "dict.get") [ud, ux]) (EP X pins σ Q) X.xe s := by
  obtain ⟨p, t, kvs, k, rfl, hG, hk, ok, hR⟩ := h.elim
  cases rd
  cases qd
  cases t with
  | false =>
    obtain ⟨ks, hH, kc⟩ := g _ _ hG
    obtain ⟨j, rfl, rfl⟩ := leaf_key hk ok rx
    refine d_get1 (by omega) I (DGet.k hH) qx fun w' s3 I3 r3 => ⟨_, H, I3, r3, ?_⟩
    cases e : dval kvs (nkK j) with
    | none => rw [e] at hR; rw [kval_none kc e]; exact fin.here g hR (.a _)
    | some cc => rw [e] at hR; obtain ⟨v, e2, rv⟩ := kval_some kc e; rw [e2]; exact fin.here g hR rv
  | true =>
    obtain ⟨xs, hH, tc⟩ := g _ _ hG
    obtain ⟨b, rfl, rfl, hi, _, _⟩ := tup_key I hk ok rx qx
    obtain ⟨h1, h2, h3, ys, yc, dd⟩ := dit_of I hH tc
    refine call_meetsIn PySem.F.slot_dict_get dd.typeIs PySem.F.entry_dict_get (PySem.F.args_dict_get_2 _ _) (meetsH_dict_get (nk X) p b h1) ⟨nk_room hu, k, ys, hi, dd, ?_⟩
    cases e : dval kvs k with
    | none => rw [e] at hR; rw [tval_none tc yc e]; exact ⟨.non, H, I.tok _, rfl, fin.here g hR (.a _)⟩
    | some cc => rw [e] at hR; obtain ⟨v, pv, e2, rv, rc⟩ := tval_some tc yc e; rw [e2]; exact ⟨v, H, I.tok _, rv, fin.here g hR rc⟩
theorem d3_get2 {c x y : CV} {R : CVK} {Q : VK} {vd vx vy : V} {ud ux uy : Value} (hu : X.A.units + 64 < cLine) (I : Inv X pins σ H s) (g : RelH (pm X N) H G) (rd : Rep X.K H vd c) (rx : Rep X.K H vx x) (ry : Rep X.K H vy y) (qd : RelV vd ud) (qx : RelV vx ux) (qy : RelV vy uy) (fin : Fin (pm X N) H R Q)
    (h : DictAt G c x fun _ kvs _ k => R ((dval kvs k).getD y) G) : wpAny (model X.prog X.w) X.A (call (.builtin "dict.get") [ud, ux, uy]) (EP X pins σ Q) X.xe s := by
  obtain ⟨p, t, kvs, k, rfl, hG, hk, ok, hR⟩ := h.elim
  cases rd
  cases qd
  cases t with
  | false =>
    obtain ⟨ks, hH, kc⟩ := g _ _ hG
    obtain ⟨j, rfl, rfl⟩ := leaf_key hk ok rx
    refine d_get2 (by omega) I (DGet.k hH) qx qy fun w' s3 I3 r3 => ⟨_, H, I3, r3, ?_⟩
    cases e : dval kvs (nkK j) with
    | none => rw [e] at hR; rw [kval_none kc e]; exact fin.here g hR ry
    | some cc => rw [e] at hR; obtain ⟨v, e2, rv⟩ := kval_some kc e; rw [e2]; exact fin.here g hR rv
  | true =>
    obtain ⟨xs, hH, tc⟩ := g _ _ hG
    obtain ⟨b, rfl, rfl, hi, _, _⟩ := tup_key I hk ok rx qx
    obtain ⟨h1, h2, h3, ys, yc, dd⟩ := dit_of I hH tc
    refine call_meetsIn PySem.F.slot_dict_get dd.typeIs PySem.F.entry_dict_get (PySem.F.args_dict_get_3 _ _ _) (meetsH_dict_get_default (nk X) p b h1 uy) ⟨nk_room hu, k, ys, hi, dd, ?_⟩
    cases e : dval kvs k with
    | none => rw [e] at hR; rw [tval_none tc yc e]; exact ⟨vy, H, I.tok _, qy, fin.here g hR ry⟩
    | some cc => rw [e] at hR; obtain ⟨v, pv, e2, rv, rc⟩ := tval_some tc yc e; rw [e2]; exact ⟨v, H, I.tok _, rv, fin.here g hR rc⟩
/-- {} -/
def cNewD (t : Bool) : CTE := fun _ G R => ∀ p, G p = none → R (.a (.ref p)) (cup G p (.dic t []))
theorem dit_empty {P : Program} {w : World} {H : Hp} (h : Heap) (hb : sysModules < h.objs.size) : ObjOk P w H (h.push { cls := .type "dict", data := .dict #[] }) h.objs.size (DitE P w h.objs.size []) :=
  dit_ok (ys := []) (beq_eq_false_iff_ne.mpr (Ne.symm (Nat.ne_of_lt hb))) (Nat.zero_le _) List.nodup_nil .nil (Heap.DictOfH.new h)
theorem ce_newD {t : Bool} {pos : Pos} : PE X (.Dict [] [] pos) (lE (pm X N) (cNewD t)) := by
  refine ⟨fun pins s σ H Q I hh => ?_⟩
  obtain ⟨τ, G, R, at0, h, fin⟩ := hh
  have hf : H s.heap.objs.size = none := I.hok.fresh (Nat.le_refl _)
  cases t with
  | false =>
    exact wpAny_Dict_empty ⟨.ref s.heap.objs.size, _, I.laid (a := s.heap.objs.size) (o := .dK []) (t' := s.toks) (fun _ _ q => Heap.get?_push_of_some _ q) (Nat.le_refl _) (dk_empty s.heap I.big), rfl,
      fin.newO at0.h hf (RepO.mkK upd_same .nil) (h _ (at0.h.fresh hf))⟩
  | true =>
    exact wpAny_Dict_empty ⟨.ref s.heap.objs.size, _, I.laid (a := s.heap.objs.size) (o := DitE X.prog X.w s.heap.objs.size []) (t' := s.toks) (fun _ _ q => Heap.get?_push_of_some _ q) (Nat.le_refl _) (dit_empty s.heap I.big), rfl,
      fin.newO at0.h hf (RepO.mkT (m := pm X N) upd_same .nil) (h _ (at0.h.fresh hf))⟩
end
/-- a def that may be called: its promise, how many arguments it takes -/
structure FnC (X : Cx) (N : Nm) (f : Addr) (sp : CSp) (ds : List CV) (ar : Nat) : Prop where
  ex : ∃ fd ps k dvs dus, FnOk X.prog X.w X.K X.mg X.base CX0 k f fd ps (lSp (pm X N) sp) ∧ Room (k + 1) X.A ∧ ps.length = ar ∧ (∀ H, Reps X.K H dvs ds) ∧ Vals dvs dus ∧ Binds X.K fd ps dus
structure MeC (X : Cx) (N : Nm) (c : Nat) (m : Str) (sp : CSp) (ds : List CV) (ar : Nat) : Prop where
  ex : ∃ f, Meth X.K (He.ga X.K (N.cn c)) m f ∧ FnC X N f sp ds ar
section
variable {X : Cx} {N : Nm} {pins : List (Addr × Obj)} {σ : L2.St} {H : Hp} {s : Shared} {G : CH}
/-- the def runs -/
theorem run3 {f : Addr} {sp : CSp} {ds cs : List CV} {ar : Nat} {vs : List V} {us : List Value} {R : CVK} {Q : VK} (F : FnC X N f sp ds ar) (I : Inv X pins σ H s) (g : RelH (pm X N) H G) (r : Reps X.K H vs cs) (rv : Vals vs us) (h : sp (cs ++ ds) G R) (fin : Fin (pm X N) H R Q) :
    wpAny (model X.prog X.w) X.A (call (.ref f) us) (EP X pins σ Q) X.xe s := by
  obtain ⟨fd, ps, k, dvs, dus, F1, hr, _, hd, hv, hb⟩ := F.ex
  exact run_fn F1 (hr.mono (Nat.le_succ _)) hb hv pass0 I rv ⟨cs ++ ds, G, R, r.append (hd H), g, h, fin⟩
end
/-- own methods by class number -/
abbrev Tab := List (Nat × CSp)
def TabOk (X : Cx) (N : Nm) (m : Str) (ar : Nat) (t : Tab) : Prop := ∀ c sp, t.lookup c = some sp → MeC X N c m sp [] ar
def xr (neg b : Bool) : Bool := if neg then !b else b
def InT (own : Tab) (neg : Bool) : C2 := fun x y G R => match y with
  | .tup ys => ∃ v vs, x = .a v ∧ ys = vs.map .a ∧ flatV v = true ∧ vs.all flatV = true ∧ R (.a (.bl (xr neg (inV v vs)))) G
  | .a (.str z) => (match x with
    | .a (.str c) => ∃ k, c = ⟨#[k]⟩ ∧ R (.a (.bl (xr neg (decide (k ∈ z.cps.toList))))) G
    | _ => False)
  | .a (.ref p) => (match G p with
    | some (.dic _ _) => DictAt G y x fun _ kvs _ k => R (.a (.bl (xr neg (dval kvs k).isSome))) G
    | some (.ins c _) => (match own.lookup c with
      | some sp => sp [y, x] G fun v G' => ∃ b, v = .a (.bl b) ∧ R (.a (.bl (xr neg b))) G'
      | none => False)
    | some (.lst ys) => ∃ v vs, x = .a v ∧ ys = vs.map .a ∧ flatV v = true ∧ vs.all flatV = true ∧ R (.a (.bl (xr neg (inV v vs)))) G
    | _ => False)
  | _ => False
theorem Reps.atoms_inv {K : PySem.W.Frag} {H : Hp} : ∀ {vs ws : List V}, Reps K H vs (ws.map .a) → vs = ws
  | [], [], _ => rfl
  | v :: vs, w :: ws, h => by
    cases h with
    | cons r t => rw [r.at_a, Reps.atoms_inv t]
  | [], w :: ws, h => by cases h
  | v :: vs, [], h => by cases h
section
variable {X : Cx} {N : Nm}
theorem inst_of {pins : List (Addr × Obj)} {σ : L2.St} {H : Hp} {s : Shared} {p C dx : Addr} {fs : List (Str × V)} (I : Inv X pins σ H s) (e : H p = some (.ins C dx fs)) : ∃ od, PySem.W.InstAt s.heap p (PySem.W.instObj C dx) C (some od) := by
  obtain ⟨mA, O, _⟩ := ins_get I.hok e
  obtain ⟨od, J, _⟩ := O.look
  exact ⟨od, J⟩
theorem cop_in {own : Tab} (ok : TabOk X N "__contains__" 2 own) (hu : X.A.units + 64 < cLine) : OpR X (compareOp .In) (l2 (pm X N) (InT own false)) := by
  intro pins s σ H x y v u Q I rx ry hh
  obtain ⟨cx, cy, G, R, hx, hy, g, h, fin⟩ := hh
  unfold InT at h
  split at h
  · obtain ⟨w, ws, rfl, rfl, f1, f2, hR⟩ := h
    cases hy with
    | @tup p vs _ h1 h2 =>
      cases hx
      have e := h2.atoms_inv
      subst e
      refine op_in_seq pins s σ H _ _ v u Q I rx ry ⟨p, vs, rfl, .inr h1.sq, f1, f2, fin.at_a g hR⟩
  · split at h
    · obtain ⟨k, rfl, hR⟩ := h
      cases hx; cases hy
      exact op_in_sign pins s σ H _ _ v u Q I rx ry ⟨k, _, rfl, rfl, fin.at_a g hR⟩
    · exact h.elim
  · rename_i p
    split at h
    · cases hy
      exact d3_in hu I g (.a (.ref p)) hx ry rx fin h
    · rename_i c fs hG
      split at h
      · rename_i sp hsp
        cases hy
        cases ry
        obtain ⟨f, me, F⟩ := (ok c sp hsp).ex
        obtain ⟨dx, vs, hH, cl, _⟩ := g _ _ hG
        obtain ⟨od, J⟩ := inst_of I hH
        obtain ⟨mm, fr⟩ := I.fr
        refine PySem.W.in_K fr I.mod.kin J me.at_ me.fn ?_
        have hsp2 : sp ([CV.a (.ref p), cx] ++ []) G fun v G' => ∃ b, v = .a (.bl b) ∧ R (.a (.bl (xr false b))) G' := by rw [List.append_nil]; exact h
        have q := run3 (vs := [.ref p, x]) (us := [.ref p, v]) (Q := fun w H' => ∃ b, w = .bl b ∧ Q (.bl (xr false b)) H') F I g (.cons (.a _) (.cons hx .nil)) (.cons rfl (.cons rx .nil)) hsp2 (fun w cw H' G' ⟨b, e, hr⟩ rw' g' t' => by
          subst e
          exact ⟨b, rw'.at_a, fin _ _ _ _ hr (.a _) g' t'⟩)
        refine thn q fun w s' ⟨ww, H', I', rw', b, e, hq⟩ => ?_
        subst e
        cases rw'
        exact wpAny_truthy_bool ⟨.bl (xr false b), H', I', rfl, hq⟩
      · exact h.elim
    · rename_i ys hG
      obtain ⟨w, ws, rfl, rfl, f1, f2, hR⟩ := h
      cases hx; cases hy
      obtain ⟨vs, hH, h2⟩ := g _ _ hG
      have e := h2.atoms_inv
      subst e
      exact op_in_seq pins s σ H _ _ v u Q I rx ry ⟨p, vs, rfl, .inl (.of hH), f1, f2, fin.at_a g hR⟩
    · exact h.elim
  · exact h.elim
theorem cop_notIn {own : Tab} (ok : TabOk X N "__contains__" 2 own) (hu : X.A.units + 64 < cLine) : OpR X (compareOp .NotIn) (l2 (pm X N) (InT own true)) := by
  intro pins s σ H x y v u Q I rx ry hh
  obtain ⟨cx, cy, G, R, hx, hy, g, h, fin⟩ := hh
  unfold InT at h
  split at h
  · obtain ⟨w, ws, rfl, rfl, f1, f2, hR⟩ := h
    cases hy with
    | @tup p vs _ h1 h2 =>
      cases hx
      have e := h2.atoms_inv
      subst e
      refine op_notIn_seq pins s σ H _ _ v u Q I rx ry ⟨p, vs, rfl, .inr h1.sq, f1, f2, fin.at_a g hR⟩
  · split at h
    · obtain ⟨k, rfl, hR⟩ := h
      cases hx; cases hy
      exact op_notIn_sign pins s σ H _ _ v u Q I rx ry ⟨k, _, rfl, rfl, fin.at_a g hR⟩
    · exact h.elim
  · rename_i p
    split at h
    · cases hy
      exact d3_notIn hu I g (.a (.ref p)) hx ry rx fin h
    · rename_i c fs hG
      split at h
      · rename_i sp hsp
        cases hy
        cases ry
        obtain ⟨f, me, F⟩ := (ok c sp hsp).ex
        obtain ⟨dx, vs, hH, cl, _⟩ := g _ _ hG
        obtain ⟨od, J⟩ := inst_of I hH
        obtain ⟨mm, fr⟩ := I.fr
        refine PySem.W.notIn_K fr I.mod.kin J me.at_ me.fn ?_
        have hsp2 : sp ([CV.a (.ref p), cx] ++ []) G fun v G' => ∃ b, v = .a (.bl b) ∧ R (.a (.bl (xr true b))) G' := by rw [List.append_nil]; exact h
        have q := run3 (vs := [.ref p, x]) (us := [.ref p, v]) (Q := fun w H' => ∃ b, w = .bl b ∧ Q (.bl (xr true b)) H') F I g (.cons (.a _) (.cons hx .nil)) (.cons rfl (.cons rx .nil)) hsp2 (fun w cw H' G' ⟨b, e, hr⟩ rw' g' t' => by
          subst e
          exact ⟨b, rw'.at_a, fin _ _ _ _ hr (.a _) g' t'⟩)
        refine thn q fun w s' ⟨ww, H', I', rw', b, e, hq⟩ => ?_
        subst e
        cases rw'
        exact wpAny_truthy_bool ⟨.bl (xr true b), H', I', rfl, hq⟩
      · exact h.elim
    · rename_i ys hG
      obtain ⟨w, ws, rfl, rfl, f1, f2, hR⟩ := h
      cases hx; cases hy
      obtain ⟨vs, hH, h2⟩ := g _ _ hG
      have e := h2.atoms_inv
      subst e
      exact op_notIn_seq pins s σ H _ _ v u Q I rx ry ⟨p, vs, rfl, .inl (.of hH), f1, f2, fin.at_a g hR⟩
    · exact h.elim
  · exact h.elim
end
def cIx (own : Tab) : C2 := fun x y G R => match x with
  | .tup xs => (match y with
    | .a (.int i) => (match atI xs i with
      | some c => R c G
      | none => False)
    | _ => False)
  | .a (.str z) => (match y with
    | .a (.int i) => z.length ≤ sizeLine ∧ (match atI z.cps.toList i with
      | some k => R (.a (.str ⟨#[k]⟩)) G
      | none => False)
    | _ => False)
  | .a (.ref p) => (match G p with
    | some (.dic _ _) => DictAt G x y fun _ kvs _ k => ∃ c, dval kvs k = some c ∧ R c G
    | some (.lst xs) => (match y with
      | .a (.int i) => (match atI xs i with
        | some c => R c G
        | none => False)
      | _ => False)
    | some (.rls xs) => (match y with
      | .a (.int i) => (match atI xs i with
        | some c => R c G
        | none => False)
      | _ => False)
    | _ => False)
  | _ => False
theorem Reps.atI {K : PySem.W.Frag} {H : Hp} {vs : List V} {cs : List CV} {i : Int} {c : CV} (r : Reps K H vs cs) (h : L2.atI cs i = some c) : ∃ v, L2.atI vs i = some v ∧ Rep K H v c := by
  unfold L2.atI at h ⊢
  rw [r.length]
  cases e : ixN cs.length i with
  | none => rw [e] at h; cases h
  | some j =>
    rw [e] at h
    obtain ⟨v, h1, h2⟩ := r.get (i := j) (c := c) h
    exact ⟨v, h1, h2⟩
section
variable {X : Cx} {N : Nm}
theorem subTail {T id : String} {value slice : Expr} {o i : Value} {s : Shared} {A : Around} {E : Value → Shared → Prop} {prog : Program} {w : World} {Q : Value → Shared → Prop} (hl : typeLookup (.type T) "__getitem__" = pure (some (.builtin id))) (hT : s.TypeIs o T)
    (hs : subscripted slice false o i = operate [o, i] (getItem o i)) (h₂ : wpAny (model prog w) A (getItem o i) Q E s) : wpAny (model prog w) A (subscriptTail value slice o i) Q E s := by
  unfold subscriptTail
  refine wpAny_bind ?_
  rw [getitemInPython_of_ne hT.not_modules]
  refine wpAny_bind (wpAny_specialOf hT hl ?_)
  have fin : wpAny (model prog w) A (subscripted slice false o i) (fun r s₃ => wpAny (model prog w) A (letTemporaryGo value o r >>= fun _ => pure r) Q E s₃) E s := by
    rw [hs]
    exact wpAny_operating (wpAny_mono h₂ (fun r s₃ h₃ => wpAny_bind (wpAny_letTemporaryGo (wpAny_pure h₃))) fun _ _ x => x)
  first
    | exact wpAny_pure (wpAny_bind fin)
    | exact wpAny_bind (wpAny_pure (wpAny_bind fin))
    | exact wpAny_bind fin
theorem cix (hu : X.A.units + 64 < cLine) : IxR X (l2 (pm X N) (cIx [])) := by
  intro value slice pins s σ H x y v u Q I rx ry hh hs
  obtain ⟨cx, cy, G, R, hx, hy, g, h, fin⟩ := hh
  unfold cIx at h
  split at h
  · split at h
    · split at h
      · rename_i c e
        cases hy
        cases hx with
        | tup h1 h2 =>
          obtain ⟨w, e2, rw'⟩ := h2.atI e
          exact ix_tup value slice pins s σ H _ _ v u Q I rx ry ⟨_, _, _, w, rfl, rfl, h1.sq, e2, fin.here g h rw'⟩ hs
      · exact h.elim
    · exact h.elim
  · split at h
    · obtain ⟨hz, h⟩ := h
      split at h
      · rename_i k e
        cases hx; cases hy
        exact ix_str value slice pins s σ H _ _ v u Q I rx ry ⟨_, _, k, rfl, rfl, hz, e, fin.at_a g h⟩ hs
      · exact h.elim
    · exact h.elim
  · rename_i p
    split at h
    · obtain ⟨ht, hg⟩ := d3_get hu I g hx hy rx ry fin h
      exact subTail PySem.F.slot_dict_getitem.lookup ht hs hg
    · rename_i xs hG
      split at h
      · split at h
        · rename_i c e
          cases hx; cases hy
          obtain ⟨vs, hH, h2⟩ := g _ _ hG
          obtain ⟨w, e2, rw'⟩ := h2.atI e
          exact ix_list value slice pins s σ H _ _ v u Q I rx ry ⟨_, _, _, w, rfl, rfl, .of hH, e2, fin.here g h rw'⟩ hs
        · exact h.elim
      · exact h.elim
    · rename_i xs hG
      split at h
      · split at h
        · rename_i c e
          cases hx; cases hy
          obtain ⟨vs, o, hH, h2⟩ := g _ _ hG
          obtain ⟨w, e2, rw'⟩ := h2.atI e
          exact ix_list value slice pins s σ H _ _ v u Q I rx ry ⟨_, _, _, w, rfl, rfl, .inl (.inr ⟨o, hH⟩), e2, fin.here g h rw'⟩ hs
        · exact h.elim
      · exact h.elim
    · exact h.elim
  · exact h.elim
end
def cut {α : Type} (xs : List α) (lo hi : Option Int) : List α := (xs.drop (HT.sIx xs.length 0 lo)).take (HT.sIx xs.length xs.length hi - HT.sIx xs.length 0 lo)
abbrev CSl := CV → Option Int → Option Int → CH → CVK → Prop
def cSl : CSl := fun x lo hi G R => match x with
  | .tup xs => R (.tup (cut xs lo hi)) G
  | .a (.str z) => z.length ≤ sizeLine ∧ R (.a (.str (cutS z lo hi))) G
  | .a (.ref p) => (match G.seq p with
    | some xs => ∀ q, G q = none → R (.a (.ref q)) (cup G q (.lst (cut xs lo hi)))
    | none => False)
  | _ => False
def lSl (m : Pm) (r : CSl) : V → Option Int → Option Int → Hp → VK → Prop := fun x lo hi H Q => ∃ c G R, Rep m.K H x c ∧ RelH m H G ∧ r c lo hi G R ∧ Fin m H R Q
theorem Reps.cut {K : PySem.W.Frag} {H : Hp} {vs : List V} {cs : List CV} (r : Reps K H vs cs) (lo hi : Option Int) : Reps K H (cutV vs lo hi) (C3.cut cs lo hi) := by
  unfold cutV C3.cut
  rw [r.length]
  exact (r.drop _).take _
theorem cut_all {α : Type} {xs : List α} {lo hi : Option Int} (h : HT.sIx xs.length 0 lo = 0 ∧ HT.sIx xs.length xs.length hi = xs.length) : cut xs lo hi = xs := by
  unfold cut
  rw [h.1, h.2]
  simp
section
variable {X : Cx} {N : Nm}
theorem csl : SlR X (lSl (pm X N) cSl) := by
  intro pins s σ H x v vl vu lo hi sl Q I rx hs pl pu hh
  obtain ⟨cx, G, R, hx, g, h, fin⟩ := hh
  unfold cSl at h
  split at h
  · cases hx with
    | @tup p vs cs h1 h2 =>
      refine sl_tupF pins s σ H _ v vl vu lo hi sl Q I rx hs pl pu ⟨p, vs, rfl, h1.sq, fun e => ?_, fun q o hq ho => ?_⟩
      · rw [h2.length] at e
        rw [cut_all e] at h
        exact fin.here g h (.tup h1 h2)
      · exact fin.newT g hq ho (h2.cut lo hi) h
  · cases hx
    exact sl_str pins s σ H _ v vl vu lo hi sl Q I rx hs pl pu ⟨_, rfl, h.1, fin.at_a g h.2⟩
  · rename_i p
    split at h
    · rename_i xs e
      cases hx
      obtain ⟨vs, h1, h2⟩ := g.seq e
      refine sl_list pins s σ H _ v vl vu lo hi sl Q I rx hs pl pu ⟨p, vs, rfl, h1, fun q hq => ?_⟩
      exact fin.newL g hq (h2.cut lo hi) (h q (g.fresh hq))
    · exact h.elim
  · exact h.elim
end
abbrev CSet := CV → CV → CV → CH → (CH → Prop) → Prop
def cSet : CSet := fun o i v G R => match o with
  | .a (.ref p) => (match G p with
    | some (.dic _ _) => DictAt G o i fun t kvs p k => kvs.length < sizeLine ∧ R (cup G p (.dic t (dput kvs k v)))
    | some (.lst xs) => (match i with
      | .a (.int k) => (match ixN xs.length k with
        | some j => R (cup G p (.lst (xs.set j v)))
        | none => False)
      | _ => False)
    | _ => False)
  | _ => False
def lSet (m : Pm) (r : CSet) : V → V → V → Hp → (Hp → Prop) → Prop := fun o i v H Q => ∃ co ci cv G R, Rep m.K H o co ∧ Rep m.K H i ci ∧ Rep m.K H v cv ∧ RelH m H G ∧ r co ci cv G R ∧ ∀ H' G', R G' → RelH m H' G' → TupSub m.K H H' → Q H'
section
variable {X : Cx} {N : Nm}
theorem cset (hu : X.A.units + 64 < cLine) : PSet X (lSet (pm X N) cSet) := by
  intro pins s σ H o i v ov iv u Q I ro ri rv hh
  obtain ⟨co, ci, cv, G, R, ho, hi, hv, g, h, fin⟩ := hh
  unfold cSet at h
  split at h
  · rename_i p
    split at h
    · exact d3_set (Rn := R) (Qn := Q) hu I g ho hi hv ro ri rv fin h
    · rename_i xs hG
      split at h
      · split at h
        · rename_i j e
          cases ho; cases hi
          obtain ⟨vs, hH, h2⟩ := g _ _ hG
          have nt : NoTup (H p) := by rw [hH]; trivial
          refine set_list pins s σ H _ _ v ov iv u Q I ro ri rv ⟨p, vs, _, j, rfl, rfl, hH, by rw [h2.length]; exact e, ?_⟩
          exact fin _ _ h (g.write nt (RepO.mkL upd_same ((h2.set hv j).mono (.put nt)))) (.put nt)
        · exact h.elim
      · exact h.elim
    · exact h.elim
  · exact h.elim
end
mutual
def isDat : CV → Bool
  | .a .non => true
  | .a (.bl _) => true
  | .a (.int _) => true
  | .a (.str _) => true
  | .a _ => false
  | .tup xs => areDat xs
def areDat : List CV → Bool
  | [] => true
  | x :: xs => isDat x && areDat xs
end
mutual
def datC : CV → PyData
  | .a .non => .none
  | .a (.bl b) => .bool b
  | .a (.int i) => .int i
  | .a (.str x) => .str x
  | .a _ => .none
  | .tup xs => .tuple (datCs xs)
def datCs : List CV → List PyData
  | [] => []
  | x :: xs => datC x :: datCs xs
end
mutual
theorem CDat.of (G : CH) : ∀ x : CV, isDat x = true → CDat G x (datC x)
  | .a v, h => by
    cases v <;> first | (unfold datC; constructor) | (unfold isDat at h; cases h)
  | .tup xs, h => by
    unfold isDat at h
    unfold datC
    exact .tup (CDats.of G xs h)
theorem CDats.of (G : CH) : ∀ xs : List CV, areDat xs = true → CDats G xs (datCs xs)
  | [], _ => by unfold datCs; exact .nil
  | x :: xs, h => by
    unfold areDat at h
    obtain ⟨h1, h2⟩ := Bool.and_eq_true_iff.mp h
    unfold datCs
    exact .cons (CDat.of G x h1) (CDats.of G xs h2)
end
theorem areDat_mem : ∀ {xs : List CV} {x : CV}, areDat xs = true → x ∈ xs → isDat x = true
  | [], x, _, h => by cases h
  | y :: ys, x, h, m => by
    unfold areDat at h
    obtain ⟨h1, h2⟩ := Bool.and_eq_true_iff.mp h
    rcases List.mem_cons.mp m with e | m
    · rw [e]; exact h1
    · exact areDat_mem h2 m
def cLen (own : Tab) : CL := fun cs G R => match cs with
  | [.tup xs] => R (.a (.int xs.length)) G
  | [.a (.str z)] => z.length ≤ sizeLine ∧ R (.a (.int z.length)) G
  | [.a (.ref p)] => (match G p with
    | some (.lst xs) => R (.a (.int xs.length)) G
    | some (.rls xs) => R (.a (.int xs.length)) G
    | some (.dic _ kvs) => R (.a (.int kvs.length)) G
    | _ => False)
  | _ => False
def cTuple : CL := fun cs G R => match cs with
  | [.tup xs] => R (.tup xs) G
  | [.a (.ref p)] => (match G.seq p with
    | some xs => R (.tup xs) G
    | none => False)
  | _ => False
def cInt : CL := fun cs G R => match cs with
  | [.a (.int i)] => R (.a (.int i)) G
  | _ => False
def cAbs : CL := fun cs G R => match cs with
  | [.a (.int i)] => R (.a (.int (if i < 0 then -i else i))) G
  | _ => False
def cSum : CL := fun cs G R => match cs with
  | [.a (.ref p)] => ∃ ns : List Int, G.seq p = some (ns.map fun i => .a (.int i)) ∧ R (.a (.int ns.sum)) G
  | _ => False
def cMax : CL := fun cs G R => match cs with
  | [.a (.int i), .a (.int j)] => R (.a (.int (if j > i then j else i))) G
  | _ => False
def cMin : CL := fun cs G R => match cs with
  | [.a (.int i), .a (.int j)] => R (.a (.int (if j < i then j else i))) G
  | _ => False
/-- sorted: a list of data that can be ordered; a dict with few text keys -/
structure SortOk (xs : List CV) : Prop where
  dat : areDat xs = true
  ali : PySem.W.AllAlike (xs.map datC)
  srt : PySem.W.Sortable (xs.map datC)
  len : xs.length ≤ sizeLine
  dep : ∀ x ∈ xs, (datC x).depth ≤ 40
def leC : CV → CV → Bool := PySem.W.dataLe false datC
def cSorted : CL := fun cs G R => match cs with
  | [.a (.ref p)] => (match G p with
    | some (.lst xs) => SortOk xs ∧ ∀ q, G q = none → R (.a (.ref q)) (cup G q (.lst (xs.mergeSort leC)))
    | some (.dic false kvs) => ∃ ks : List Str, kvs.map (·.1) = ks.map .text ∧ ks.length < 64 ∧ ∀ ys q, ys.Perm ks → sortedS ys = true → G q = none → R (.a (.ref q)) (cup G q (.lst (ys.map fun z => .a (.str z))))
    | _ => False)
  | _ => False
section
variable {X : Cx} {N : Nm}
theorem cc_len (own : Tab) (hu : X.A.units + 64 < cLine) : CallR X (.builtin "len") (lL (pm X N) (cLen own)) := by
  intro pins s σ H xs us Q I r hh
  obtain ⟨cs, G, R, hr, g, h, fin⟩ := hh
  unfold cLen at h
  split at h
  · obtain ⟨v, rfl, rv⟩ := hr.one
    cases rv with
    | tup h1 h2 =>
      refine call_len_seq pins s σ H _ us Q I r ⟨_, _, rfl, .inr h1.sq, ?_⟩
      rw [h2.length]
      exact fin.at_a g h
  · obtain ⟨v, rfl, rv⟩ := hr.one
    cases rv
    exact call_len_str pins s σ H _ us Q I r ⟨_, rfl, h.1, fin.at_a g h.2⟩
  · obtain ⟨v, rfl, rv⟩ := hr.one
    cases rv
    split at h
    · rename_i hG
      obtain ⟨vs, hH, h2⟩ := g _ _ hG
      refine call_len_seq pins s σ H _ us Q I r ⟨_, _, rfl, .inl (.of hH), ?_⟩
      rw [h2.length]
      exact fin.at_a g h
    · rename_i hG
      obtain ⟨vs, o, hH, h2⟩ := g _ _ hG
      refine call_len_seq pins s σ H _ us Q I r ⟨_, _, rfl, .inl (.inl (.inr ⟨o, hH⟩)), ?_⟩
      rw [h2.length]
      exact fin.at_a g h
    · rename_i t kvs hG
      obtain ⟨u, rfl, ru⟩ := vals1 r
      cases ru
      cases t with
      | false =>
        obtain ⟨ks, hH, kc⟩ := g _ _ hG
        have el : ks.length = kvs.length := Paired.length kc
        refine d_len I (.inl hH) fun t s' I' => ⟨.int _, H, I', ⟨t, rfl⟩, ?_⟩
        rw [el]
        exact fin.at_a g h
      | true =>
        obtain ⟨zs, hH, tc⟩ := g _ _ hG
        obtain ⟨h1, h2, h3, ys, yc, dd⟩ := dit_of I hH tc
        have el : zs.length = kvs.length := Paired.length tc
        have el2 : zs.length = ys.length := Paired.length yc
        refine call_len_dictH h1 dd ?_ ⟨.int _, H, I.tok _, ⟨_, rfl⟩, ?_⟩
        · have := sizeLine_eq; omega
        · rw [← el2, el]
          exact fin.at_a g h
    · exact h.elim
  · exact h.elim
theorem cc_tuple : CallR X (.type "tuple") (lL (pm X N) cTuple) := by
  intro pins s σ H xs us Q I r hh
  obtain ⟨cs, G, R, hr, g, h, fin⟩ := hh
  unfold cTuple at h
  split at h
  · obtain ⟨v, rfl, rv⟩ := hr.one
    cases rv with
    | tup h1 h2 => exact call_tupleF pins s σ H _ us Q I r ⟨_, _, rfl, .inr ⟨h1.sq, fin.here g h (.tup h1 h2)⟩⟩
  · obtain ⟨v, rfl, rv⟩ := hr.one
    cases rv
    split at h
    · rename_i xs e
      obtain ⟨vs, h1, h2⟩ := g.seq e
      exact call_tupleF pins s σ H _ us Q I r ⟨_, _, rfl, .inl ⟨h1, fun l o hl ho => fin.newT g hl ho h2 h⟩⟩
    · exact h.elim
  · exact h.elim
theorem cc_int : CallR X (.type "int") (lL (pm X N) cInt) := by
  intro pins s σ H xs us Q I r hh
  obtain ⟨cs, G, R, hr, g, h, fin⟩ := hh
  unfold cInt at h
  split at h
  · obtain ⟨v, rfl, rv⟩ := hr.one
    cases rv
    exact call_int1 pins s σ H _ us Q I r (.inl ⟨_, rfl, fin.at_a g h⟩)
  · exact h.elim
theorem cc_abs : CallR X (.builtin "abs") (lL (pm X N) cAbs) := by
  intro pins s σ H xs us Q I r hh
  obtain ⟨cs, G, R, hr, g, h, fin⟩ := hh
  unfold cAbs at h
  split at h
  · obtain ⟨v, rfl, rv⟩ := hr.one
    cases rv
    exact call_abs pins s σ H _ us Q I r ⟨_, rfl, fin.at_a g h⟩
  · exact h.elim
theorem Reps.intsf {K : PySem.W.Frag} {H : Hp} {vs : List V} {ns : List Int} (h : Reps K H vs (ns.map fun i => .a (.int i))) : vs = ns.map V.int := h.ints
theorem cc_sum (hc : X.calm = true) : CallR X (.builtin "sum") (lL (pm X N) cSum) := by
  intro pins s σ H xs us Q I r hh
  obtain ⟨cs, G, R, hr, g, h, fin⟩ := hh
  unfold cSum at h
  split at h
  · obtain ⟨v, rfl, rv⟩ := hr.one
    cases rv
    obtain ⟨ns, e, h⟩ := h
    obtain ⟨vs, h1, h2⟩ := g.seq e
    have e2 := h2.intsf
    subst e2
    exact cr_sum hc pins s σ H _ us Q I r ⟨_, ns, rfl, h1, fin.at_a g h⟩
  · exact h.elim
theorem cc_max (hc : X.calm = true) : CallR X (.builtin "max") (lL (pm X N) cMax) := by
  intro pins s σ H xs us Q I r hh
  obtain ⟨cs, G, R, hr, g, h, fin⟩ := hh
  unfold cMax at h
  split at h
  · obtain ⟨v, w, rfl, rv, rw'⟩ := hr.two
    cases rv; cases rw'
    exact call_max2 hc pins s σ H _ us Q I r ⟨_, _, rfl, fin.at_a g h⟩
  · exact h.elim
theorem cc_min (hc : X.calm = true) : CallR X (.builtin "min") (lL (pm X N) cMin) := by
  intro pins s σ H xs us Q I r hh
  obtain ⟨cs, G, R, hr, g, h, fin⟩ := hh
  unfold cMin at h
  split at h
  · obtain ⟨v, w, rfl, rv, rw'⟩ := hr.two
    cases rv; cases rw'
    exact call_min2 hc pins s σ H _ us Q I r ⟨_, _, rfl, fin.at_a g h⟩
  · exact h.elim
theorem each_of {K : PySem.W.Frag} {H : Hp} : ∀ {vs : List V} {us : List Value} {cs : List CV}, Vals vs us → Reps K H vs cs → PySem.W.EachIs (fun u c => ∃ v, RelV v u ∧ Rep K H v c) us cs
  | _, _, _, .nil, .nil => .nil
  | _, _, _, .cons r t, .cons q w => .cons ⟨_, r, q⟩ (each_of t w)
theorem of_each {K : PySem.W.Frag} {H : Hp} : ∀ {us : List Value} {cs : List CV}, PySem.W.EachIs (fun u c => ∃ v, RelV v u ∧ Rep K H v c) us cs → ∃ vs, Vals vs us ∧ Reps K H vs cs
  | _, _, .nil => ⟨[], .nil, .nil⟩
  | _, _, .cons ⟨v, r, q⟩ t => by
    obtain ⟨vs, h1, h2⟩ := of_each t
    exact ⟨v :: vs, .cons r h1, .cons q h2⟩
theorem each_mem' {α β : Type} {R R' : α → β → Prop} : ∀ {as : List α} {bs : List β}, PySem.W.EachIs R as bs → (∀ a b, b ∈ bs → R a b → R' a b) → PySem.W.EachIs R' as bs
  | _, _, .nil, _ => .nil
  | _, _, .cons r t, f => .cons (f _ _ List.mem_cons_self r) (each_mem' t fun a b m => f a b (List.mem_cons_of_mem _ m))
theorem cc_sorted (hc : X.calm = true) (hu : X.A.units + 64 < cLine) : CallR X (.builtin "sorted") (lL (pm X N) cSorted) := by
  intro pins s σ H xs us Q I r hh
  obtain ⟨cs, G, R, hr, g, h, fin⟩ := hh
  unfold cSorted at h
  split at h
  · obtain ⟨v, rfl, rv⟩ := hr.one
    cases rv
    split at h
    · rename_i p ys hG
      obtain ⟨so, h⟩ := h
      obtain ⟨vs, hH, h2⟩ := g _ _ hG
      obtain ⟨its, rv, hl, hz⟩ := I.list (SqL.of (K := X.K) hH)
      rw [Vals.ref1 r]
      have e1 := each_of rv h2
      refine PySem.W.sorted_data (enc := datC) hl.isList e1 (each_mem' e1 fun u c hm ⟨v, q1, q2⟩ => Dp.reads I (datC c) v u ((CDat.of G c (areDat_mem so.dat hm)).dp g _ _ _ q2) q1) so.ali so.srt so.len (fun b hb => by have := so.dep b hb; omega) fun out ho eo => ?_
      obtain ⟨ws, q1, q2⟩ := of_each eo
      obtain ⟨ep, he'⟩ := PyProof.Rows.sortedAll_at s.heap its out.toArray
      have hlen : ws.length ≤ sizeLine := by rw [q1.length, ho]; exact so.len
      have hf := I.hok.fresh (Nat.le_succ s.heap.objs.size)
      exact ⟨.ref _, upd H (s.heap.objs.size + 1) (.lst ws), I.laid (t' := s.toks) (fun _ _ => PyProof.Rows.sortedAll_old) (Nat.le_succ _) ⟨hlen, out, ep, q1, he'⟩, rfl, fin.newL g hf q2 (h _ (g.fresh hf))⟩
    · rename_i p kvs hG
      obtain ⟨ks, e, h64, h⟩ := h
      obtain ⟨zs, hH, kc⟩ := g _ _ hG
      have ek : zs.map (·.1) = ks.map Sum.inr := by
        have e2 := kc.keys
        rw [e] at e2
        clear h64 h e kc hH hG
        induction zs generalizing ks with
        | nil => cases ks with
          | nil => rfl
          | cons k r => cases e2
        | cons z zs ih => cases ks with
          | nil => cases e2
          | cons k r =>
            rw [List.map_cons, List.map_cons] at e2
            injection e2 with e3 e4
            rw [List.map_cons, List.map_cons, ih r e4]
            have : z.1 = Sum.inr k := nkK_inj e3
            rw [this]
      refine call_sortedD hc pins s σ H _ us Q I r ⟨_, zs, ks, rfl, .inl hH, ek, h64, fun ys q hp hs hq => ?_⟩
      refine fin.newL g hq ?_ (h ys q hp hs (g.fresh hq))
      have : (ys.map V.str).map CV.a = ys.map fun z => CV.a (.str z) := by rw [List.map_map] <;> rfl
      rw [← this]
      exact Reps.atoms _
    · exact h.elim
  · exact h.elim
end
section
variable {X : Cx} {N : Nm} {a b c e : Expr} {es : List Expr} {Ta Tb Tc : CTE} {Tx Ty : CTT} {As : CTA} {pos p2 : Pos} {x : Str}
def cVar (i : Nat) : CTE := fun τ G R => ∃ c, τ[i]? = some (some c) ∧ R c G
def cC (v : V) : CTE := fun _ G R => R (.a v) G
theorem ce_var {i : Nat} (hN : X.N[i]? = some x := by rfl) (hv : Vis X.env.scope x := by first | exact .inl rfl | exact .inr (.inl rfl) | exact .inr (.inr rfl)) (hd : (x == ("__debug__" : Str)) = false := by decide) (hcd : (x == ("__classdict__" : Str)) = false := by decide) :
    PE X (.Name x pos) (lE (pm X N) (cVar i)) := PE.imp (pe_var hN hv hd hcd) fun σ H Q hh => by
  obtain ⟨τ, G, R, at0, ⟨c, e, h⟩, fin⟩ := hh
  obtain ⟨v, h1, h2⟩ := at0.s.at_ i c e
  exact ⟨v, h1, fin.here at0.h h h2⟩
theorem ce_k {v : V} (h : PE X e (tC v)) : PE X e (lE (pm X N) (cC v)) := PE.imp h fun σ H Q hh => by
  obtain ⟨τ, G, R, at0, h, fin⟩ := hh
  exact fin.at_a at0.h h
theorem ce_int {i : Int} {j} : PE X (.Constant (.int i) j pos) (lE (pm X N) (cC (.int i))) := ce_k pe_int
theorem ce_bl {i : Bool} {j} : PE X (.Constant (.bool i) j pos) (lE (pm X N) (cC (.bl i))) := ce_k pe_bl
theorem ce_non {j} : PE X (.Constant .none j pos) (lE (pm X N) (cC .non)) := ce_k pe_non
theorem ce_str {i : Str} {j} : PE X (.Constant (.str i) j pos) (lE (pm X N) (cC (.str i))) := ce_k pe_str
theorem ce_gint {i : Int} (hm : ∃ t, X.mg x = some (.int i t)) (hg : Gl X x := by rfl) (hd : (x == ("__debug__" : Str)) = false := by decide) : PE X (.Name x pos) (lE (pm X N) (cC (.int i))) := by
  obtain ⟨t, hm⟩ := hm
  exact ce_k (pe_glob hg hm ⟨t, rfl⟩ hd)
theorem ce_gstr {i : Str} (hm : ∃ t, X.mg x = some (.str i t)) (hg : Gl X x := by rfl) (hd : (x == ("__debug__" : Str)) = false := by decide) : PE X (.Name x pos) (lE (pm X N) (cC (.str i))) := by
  obtain ⟨t, hm⟩ := hm
  exact ce_k (pe_glob hg hm ⟨t, rfl⟩ hd)
theorem ce_op {op : Operator} {r : C2} (ho : OpR X (binaryOp op) (l2 (pm X N) r)) (ha : PE X a (lE (pm X N) Ta)) (hb : PE X b (lE (pm X N) Tb)) : PE X (.BinOp a op b pos) (lE (pm X N) (cOp r Ta Tb)) :=
  PE.imp (pe_op ho ha hb) fun _ _ _ h => lE_op h
/-- - i -/
def cNeg : CV → CH → CVK → Prop
  | .a (.int i), G, R => R (.a (.int (-i))) G
  | _, _, _ => False
theorem lE_un {r : CV → CH → CVK → Prop} {σ : L2.St} {H : Hp} {Q : VK} (h : lE (pm X N) (cUn r Ta) σ H Q) : tUn (l1 (pm X N) r) (lE (pm X N) Ta) σ H Q := by
  obtain ⟨τ, G, R, at0, h, fin⟩ := h
  exact ⟨τ, G, _, at0, h, fun v c H1 G1 h1 rv g1 t1 => ⟨c, G1, R, rv, g1, h1, fin.mono t1⟩⟩
theorem cun_neg : UnR X (unaryOp .USub) (l1 (pm X N) cNeg) := by
  intro pins s σ H x v Q I rx hh
  obtain ⟨cx, G, R, hx, g, h, fin⟩ := hh
  unfold cNeg at h
  split at h
  · cases hx
    exact un_neg pins s σ H _ v Q I rx ⟨_, rfl, fin.at_a g h⟩
  · exact h.elim
theorem ce_neg (ha : PE X a (lE (pm X N) Ta)) : PE X (.UnaryOp .USub a pos) (lE (pm X N) (cUn cNeg Ta)) := PE.imp (pe_un cun_neg ha) fun _ _ _ h => lE_un h
theorem ce_cmp {op : CmpOp} {r : C2} (ho : OpR X (compareOp op) (l2 (pm X N) r)) (ha : PE X a (lE (pm X N) Ta)) (hb : PE X b (lE (pm X N) Tb)) (hm : behindInMarks op b = false := by first | exact nobehind _ (by decide) (by decide) | rfl) :
    PE X (.Compare a [op] [b] pos) (lE (pm X N) (cOp r Ta Tb)) := PE.imp (pe_cmpR ho ha hb hm) fun _ _ _ h => lE_op h
def cTest (T : CTE) : CTT := fun τ G R => T τ G fun c G' => ∃ k, c = .a (.bl k) ∧ R k G'
theorem lT_test {T : CTE} {t : TE} {σ : L2.St} {H : Hp} {Q : Bool → Hp → Prop} (i : ∀ σ H Q, lE (pm X N) T σ H Q → t σ H Q) (h : lT (pm X N) (cTest T) σ H Q) : tTest t σ H Q := by
  obtain ⟨τ, G, R, at0, h, fin⟩ := h
  refine i _ _ _ ⟨τ, G, _, at0, h, fun v c H1 G1 h1 rv g1 t1 => ?_⟩
  obtain ⟨k, e, h1⟩ := h1
  subst e
  exact ⟨k, rv.at_a, fin k _ _ h1 g1 t1⟩
theorem ct_cmp {op : CmpOp} {r : C2} (ho : OpR X (compareOp op) (l2 (pm X N) r)) (ha : PE X a (lE (pm X N) Ta)) (hb : PE X b (lE (pm X N) Tb)) (hm : behindInMarks op b = false := by first | exact nobehind _ (by decide) (by decide) | rfl) :
    PT X (.Compare a [op] [b] pos) (lT (pm X N) (cTest (cOp r Ta Tb))) := PT.imp (pt_cmpR ho ha hb hm) fun _ _ _ h => lT_test (fun _ _ _ h => lE_op h) h
def cChain (r r' : C2) (Ta Tb Tc : CTE) : CTE := fun τ G R => Ta τ G fun x G1 => Tb τ G1 fun y G2 => r x y G2 fun z G3 => ∃ k, z = .a (.bl k) ∧ (if k = true then Tc τ G3 fun w G4 => r' y w G4 R else R (.a (.bl false)) G3)
theorem lE_chain {r r' : C2} {σ : L2.St} {H : Hp} {Q : VK} (h : lE (pm X N) (cChain r r' Ta Tb Tc) σ H Q) : tChain (l2 (pm X N) r) (l2 (pm X N) r') (lE (pm X N) Ta) (lE (pm X N) Tb) (lE (pm X N) Tc) σ H Q := by
  obtain ⟨τ, G, R, at0, h, fin⟩ := h
  refine ⟨τ, G, _, at0, h, fun v c H1 G1 h1 rv g1 t1 => ⟨τ, G1, _, ⟨at0.s.mono t1, g1⟩, h1, fun v2 c2 H2 G2 h2 rv2 g2 t2 => ⟨c, c2, G2, _, rv.mono t2, rv2, g2, h2, fun v3 c3 H3 G3 h3 rv3 g3 t3 => ?_⟩⟩⟩
  obtain ⟨k, e, h3⟩ := h3
  subst e
  refine ⟨k, rv3.at_a, ?_⟩
  cases k with
  | false =>
    simp only [Bool.false_eq_true, if_false] at h3 ⊢
    exact (fin.mono (t1.trans (t2.trans t3))).at_a g3 h3
  | true =>
    simp only [if_true] at h3 ⊢
    exact ⟨τ, G3, _, ⟨at0.s.mono (t1.trans (t2.trans t3)), g3⟩, h3, fun v4 c4 H4 G4 h4 rv4 g4 t4 => ⟨c2, c4, G4, R, rv2.mono (t3.trans t4), rv4, g4, h4, fin.mono (t1.trans (t2.trans (t3.trans t4)))⟩⟩
theorem ce_chain {op op' : CmpOp} {r r' : C2} (ho : OpR X (compareOp op) (l2 (pm X N) r)) (ho' : OpR X (compareOp op') (l2 (pm X N) r')) (ha : PE X a (lE (pm X N) Ta)) (hb : PE X b (lE (pm X N) Tb)) (hc : PE X c (lE (pm X N) Tc))
    (hm : lastMarks [op, op'] [b, c] = false := by with_unfolding_all rfl) : PE X (.Compare a [op, op'] [b, c] pos) (lE (pm X N) (cChain r r' Ta Tb Tc)) := PE.imp (pe_chain ho ho' ha hb hc hm) fun _ _ _ h => lE_chain h
theorem ct_chain {op op' : CmpOp} {r r' : C2} (ho : OpR X (compareOp op) (l2 (pm X N) r)) (ho' : OpR X (compareOp op') (l2 (pm X N) r')) (ha : PE X a (lE (pm X N) Ta)) (hb : PE X b (lE (pm X N) Tb)) (hc : PE X c (lE (pm X N) Tc))
    (hm : lastMarks [op, op'] [b, c] = false := by with_unfolding_all rfl) : PT X (.Compare a [op, op'] [b, c] pos) (lT (pm X N) (cTest (cChain r r' Ta Tb Tc))) := PT.imp (pt_chain ho ho' ha hb hc hm) fun _ _ _ h => lT_test (fun _ _ _ h => lE_chain h) h
def cTru : CV → CH → Bool → Prop
  | .a .non, _, k => k = false
  | .a (.bl b), _, k => k = b
  | .a (.int i), _, k => k = (i != 0)
  | .a (.str z), _, k => z.length ≤ sizeLine ∧ k = ((z.length : Int) != 0)
  | .tup xs, _, k => k = !xs.isEmpty
  | .a (.ref p), G, k => (match G p with
    | some (.lst xs) => k = !xs.isEmpty
    | some (.rls xs) => k = !xs.isEmpty
    | some (.dic false kvs) => k = !kvs.isEmpty
    | _ => False)
  | _, _, _ => False
theorem Reps.isEmpty {K : PySem.W.Frag} {H : Hp} {vs : List V} {cs : List CV} (r : Reps K H vs cs) : vs.isEmpty = cs.isEmpty := by cases r <;> rfl
theorem cTru.of {m : Pm} {H : Hp} {G : CH} (g : RelH m H G) {v : V} {c : CV} {k : Bool} (r : Rep m.K H v c) (h : cTru c G k) : TruV m.K v H k := by
  unfold cTru at h
  split at h
  · cases r; exact h
  · cases r; exact h
  · cases r; exact h
  · cases r; exact h
  · cases r with
    | tup h1 h2 => exact .inr (.inl ⟨_, h1.sq, by rw [h2.isEmpty]; exact h⟩)
  · cases r
    split at h
    · rename_i e
      obtain ⟨vs, h1, h2⟩ := g _ _ e
      exact .inl ⟨vs, .of h1, by rw [h2.isEmpty]; exact h⟩
    · rename_i e
      obtain ⟨vs, o, h1, h2⟩ := g _ _ e
      exact .inl ⟨vs, .inl (.inr ⟨o, h1⟩), by rw [h2.isEmpty]; exact h⟩
    · rename_i e
      obtain ⟨ks, h1, h2⟩ := g _ _ e
      refine .inr (.inr ⟨ks, h1, ?_⟩)
      rw [h]
      cases h2 <;> rfl
    · exact h.elim
  · exact h.elim
def cTruth (T : CTE) : CTT := fun τ G R => T τ G fun c G' => ∃ k, cTru c G' k ∧ R k G'
theorem ct_truth (ha : PE X a (lE (pm X N) Ta)) (he : ∀ whole, isTrue a X.env whole = (do let v ← whole; standAt a.pos; holding [v] (truthy v)) := by intro _; rfl) : PT X a (lT (pm X N) (cTruth Ta)) :=
  PT.imp (pt_truth ha he) fun σ H Q hh => by
    obtain ⟨τ, G, R, at0, h, fin⟩ := hh
    refine ⟨τ, G, _, at0, h, fun v c H1 G1 h1 rv g1 t1 => ?_⟩
    obtain ⟨k, e, h1⟩ := h1
    exact ⟨k, e.of g1 rv, fin k _ _ h1 g1 t1⟩
def cAnd (t u : CTT) : CTT := fun τ G R => t τ G fun c G1 => if c = true then u τ G1 R else R false G1
def cOr (t u : CTT) : CTT := fun τ G R => t τ G fun c G1 => if c = true then R true G1 else u τ G1 R
def cNot (t : CTT) : CTT := fun τ G R => t τ G fun c G1 => R (!c) G1
theorem cw_one_and (ha : PT X a (lT (pm X N) Tx)) : PW X (.BoolOp .And [a] pos) (lT (pm X N) Tx) := pw_and1 ha
theorem cw_one_or (ha : PT X a (lT (pm X N) Tx)) : PW X (.BoolOp .Or [a] pos) (lT (pm X N) Tx) := pw_or1 ha
theorem cw_and (ha : PT X a (lT (pm X N) Tx)) (hb : PW X (.BoolOp .And (b :: es) pos) (lT (pm X N) Ty)) : PW X (.BoolOp .And (a :: b :: es) pos) (lT (pm X N) (cAnd Tx Ty)) := PW.imp (pw_and ha hb) fun σ H Q hh => by
  obtain ⟨τ, G, R, at0, h, fin⟩ := hh
  refine ⟨τ, G, _, at0, h, fun k H1 G1 h1 g1 t1 => ?_⟩
  cases k with
  | false =>
    simp only [Bool.false_eq_true, if_false] at h1 ⊢
    exact fin _ _ _ h1 g1 t1
  | true =>
    simp only [if_true] at h1 ⊢
    exact ⟨τ, G1, R, ⟨at0.s.mono t1, g1⟩, h1, fun k2 H2 G2 h2 g2 t2 => fin _ _ _ h2 g2 (t1.trans t2)⟩
theorem cw_or (ha : PT X a (lT (pm X N) Tx)) (hb : PW X (.BoolOp .Or (b :: es) pos) (lT (pm X N) Ty)) : PW X (.BoolOp .Or (a :: b :: es) pos) (lT (pm X N) (cOr Tx Ty)) := PW.imp (pw_or ha hb) fun σ H Q hh => by
  obtain ⟨τ, G, R, at0, h, fin⟩ := hh
  refine ⟨τ, G, _, at0, h, fun k H1 G1 h1 g1 t1 => ?_⟩
  cases k with
  | true =>
    simp only [if_true] at h1 ⊢
    exact fin _ _ _ h1 g1 t1
  | false =>
    simp only [Bool.false_eq_true, if_false] at h1 ⊢
    exact ⟨τ, G1, R, ⟨at0.s.mono t1, g1⟩, h1, fun k2 H2 G2 h2 g2 t2 => fin _ _ _ h2 g2 (t1.trans t2)⟩
theorem ct_not (ha : PT X a (lT (pm X N) Tx)) : PT X (.UnaryOp .Not a pos) (lT (pm X N) (cNot Tx)) := PT.imp (pt_not ha) fun σ H Q hh => by
  obtain ⟨τ, G, R, at0, h, fin⟩ := hh
  exact ⟨τ, G, _, at0, h, fun k H1 G1 h1 g1 t1 => fin _ _ _ h1 g1 t1⟩
def cAndV (t u : CTE) : CTE := fun τ G R => t τ G fun x G1 => ∃ c, x = .a (.bl c) ∧ if c = true then u τ G1 R else R (.a (.bl false)) G1
def cOrV (t u : CTE) : CTE := fun τ G R => t τ G fun x G1 => ∃ c, x = .a (.bl c) ∧ if c = true then R (.a (.bl true)) G1 else u τ G1 R
def cNotV (t : CTE) : CTE := fun τ G R => t τ G fun x G1 => ∃ c, x = .a (.bl c) ∧ R (.a (.bl (!c))) G1
theorem ce_one {op} (ha : PE X a (lE (pm X N) Ta)) : PE X (.BoolOp op [a] pos) (lE (pm X N) Ta) := pe_one ha
theorem ce_and (ha : PE X a (lE (pm X N) Ta)) (hb : PE X (.BoolOp .And (b :: es) pos) (lE (pm X N) Tb)) : PE X (.BoolOp .And (a :: b :: es) pos) (lE (pm X N) (cAndV Ta Tb)) := PE.imp (pe_and ha hb) fun σ H Q hh => by
  obtain ⟨τ, G, R, at0, h, fin⟩ := hh
  refine ⟨τ, G, _, at0, h, fun v c H1 G1 h1 rv g1 t1 => ?_⟩
  obtain ⟨k, e, h1⟩ := h1
  subst e
  refine ⟨k, rv.at_a, ?_⟩
  cases k with
  | false =>
    simp only [Bool.false_eq_true, if_false] at h1 ⊢
    exact (fin.mono t1).at_a g1 h1
  | true =>
    simp only [if_true] at h1 ⊢
    exact ⟨τ, G1, R, ⟨at0.s.mono t1, g1⟩, h1, fin.mono t1⟩
theorem ce_or (ha : PE X a (lE (pm X N) Ta)) (hb : PE X (.BoolOp .Or (b :: es) pos) (lE (pm X N) Tb)) : PE X (.BoolOp .Or (a :: b :: es) pos) (lE (pm X N) (cOrV Ta Tb)) := PE.imp (pe_or ha hb) fun σ H Q hh => by
  obtain ⟨τ, G, R, at0, h, fin⟩ := hh
  refine ⟨τ, G, _, at0, h, fun v c H1 G1 h1 rv g1 t1 => ?_⟩
  obtain ⟨k, e, h1⟩ := h1
  subst e
  refine ⟨k, rv.at_a, ?_⟩
  cases k with
  | true =>
    simp only [if_true] at h1 ⊢
    exact (fin.mono t1).at_a g1 h1
  | false =>
    simp only [Bool.false_eq_true, if_false] at h1 ⊢
    exact ⟨τ, G1, R, ⟨at0.s.mono t1, g1⟩, h1, fin.mono t1⟩
theorem ce_not (ha : PE X a (lE (pm X N) Ta)) : PE X (.UnaryOp .Not a pos) (lE (pm X N) (cNotV Ta)) := PE.imp (pe_not ha) fun σ H Q hh => by
  obtain ⟨τ, G, R, at0, h, fin⟩ := hh
  refine ⟨τ, G, _, at0, h, fun v c H1 G1 h1 rv g1 t1 => ?_⟩
  obtain ⟨k, e, h1⟩ := h1
  subst e
  exact ⟨k, rv.at_a, (fin.mono t1).at_a g1 h1⟩
def cIf (t : CTT) (u v : CTE) : CTE := fun τ G R => t τ G fun k G1 => if k = true then u τ G1 R else v τ G1 R
theorem ce_if (hc : PT X c (lT (pm X N) Tx)) (ha : PE X a (lE (pm X N) Ta)) (hb : PE X b (lE (pm X N) Tb)) : PE X (.IfExp c a b pos) (lE (pm X N) (cIf Tx Ta Tb)) := PE.imp (pe_ifExp hc ha hb) fun σ H Q hh => by
  obtain ⟨τ, G, R, at0, h, fin⟩ := hh
  refine ⟨τ, G, _, at0, h, fun k H1 G1 h1 g1 t1 => ?_⟩
  cases k with
  | true =>
    simp only [if_true] at h1 ⊢
    exact ⟨τ, G1, R, ⟨at0.s.mono t1, g1⟩, h1, fin.mono t1⟩
  | false =>
    simp only [Bool.false_eq_true, if_false] at h1 ⊢
    exact ⟨τ, G1, R, ⟨at0.s.mono t1, g1⟩, h1, fin.mono t1⟩
def cNil : CTA := fun _ G R => R [] G
def cCons (t : CTE) (u : CTA) : CTA := fun τ G R => t τ G fun c G1 => u τ G1 fun cs G2 => R (c :: cs) G2
theorem ca_nil : PA X [] (lA (pm X N) cNil) := PA.imp pa_nil fun σ H Q hh => by
  obtain ⟨τ, G, R, at0, h, fin⟩ := hh
  exact fin [] [] H G h .nil at0.h .rfl'
theorem ca_cons (ha : PE X a (lE (pm X N) Ta)) (hr : PA X es (lA (pm X N) As)) (hs : starEach (a :: es) X.env = (false, eval a X.env) :: starEach es X.env := by rfl) : PA X (a :: es) (lA (pm X N) (cCons Ta As)) := PA.imp (pa_cons ha hr hs) fun σ H Q hh => by
  obtain ⟨τ, G, R, at0, h, fin⟩ := hh
  exact ⟨τ, G, _, at0, h, fun v c H1 G1 h1 rv g1 t1 => ⟨τ, G1, _, ⟨at0.s.mono t1, g1⟩, h1, fun vs cs H2 G2 h2 rvs g2 t2 => fin _ _ _ _ h2 (.cons (rv.mono t2) rvs) g2 (t1.trans t2)⟩⟩
def cTup (t : CTA) : CTE := fun τ G R => t τ G fun cs G1 => cs.length ≤ sizeLine ∧ R (.tup cs) G1
def cLst (t : CTA) : CTE := fun τ G R => t τ G fun cs G1 => cs.length ≤ sizeLine ∧ ∀ p, G1 p = none → R (.a (.ref p)) (cup G1 p (.lst cs))
theorem ce_tup {x1} (h : PA X es (lA (pm X N) As)) : PE X (.Tuple es x1 pos) (lE (pm X N) (cTup As)) := PE.imp (pe_tupF h) fun σ H Q hh => by
  obtain ⟨τ, G, R, at0, h, fin⟩ := hh
  refine ⟨τ, G, _, at0, h, fun vs cs H1 G1 h1 rvs g1 t1 => ⟨by rw [rvs.length]; exact h1.1, fun p o hp ho => ?_⟩⟩
  exact (fin.mono t1).newT g1 hp ho rvs h1.2
theorem ce_lst (h : PA X es (lA (pm X N) As)) : PE X (.List es pos) (lE (pm X N) (cLst As)) := PE.imp (pe_lst h) fun σ H Q hh => by
  obtain ⟨τ, G, R, at0, h, fin⟩ := hh
  refine ⟨τ, G, _, at0, h, fun vs cs H1 G1 h1 rvs g1 t1 => ⟨by rw [rvs.length]; exact h1.1, fun p hp => ?_⟩⟩
  exact (fin.mono t1).newL g1 hp rvs (h1.2 p (g1.fresh hp))
theorem ce_ix {r : C2} (hr : IxR X (l2 (pm X N) r)) (ha : PE X a (lE (pm X N) Ta)) (hb : PE X b (lE (pm X N) Tb)) (hs : PlainIx b := by intro _ _; rfl) : PE X (.Subscript a b pos) (lE (pm X N) (cOp r Ta Tb)) := PE.imp (pe_ix hr ha hb hs) fun _ _ _ h => lE_op h
abbrev CTO := CSt → CH → (Option Int → CH → Prop) → Prop
def lO (m : Pm) (T : CTO) : TO := fun σ H Q => ∃ τ G R, At0 m σ H τ G ∧ T τ G R ∧ ∀ i H' G', R i G' → RelH m H' G' → TupSub m.K H H' → Q i H'
def cNoPart : CTO := fun _ G R => R none G
def cPart (T : CTE) : CTO := fun τ G R => T τ G fun c G1 => ∃ i, c = .a (.int i) ∧ R (some i) G1
theorem PO.imp {X : Cx} {e : Option Expr} {t t' : TO} (h : PO X e t) (i : ∀ σ H Q, t' σ H Q → t σ H Q) : PO X e t' := ⟨fun pins s σ H Q I q => h.run pins s σ H Q I (i σ H Q q)⟩
theorem co_none : PO X none (lO (pm X N) cNoPart) := PO.imp po_none fun σ H Q hh => by
  obtain ⟨τ, G, R, at0, h, fin⟩ := hh
  exact fin _ _ _ h at0.h .rfl'
theorem co_some (ha : PE X a (lE (pm X N) Ta)) : PO X (some a) (lO (pm X N) (cPart Ta)) := PO.imp (po_some ha) fun σ H Q hh => by
  obtain ⟨τ, G, R, at0, h, fin⟩ := hh
  refine ⟨τ, G, _, at0, h, fun v c H1 G1 h1 rv g1 t1 => ?_⟩
  obtain ⟨i, e, h1⟩ := h1
  subst e
  exact ⟨i, rv.at_a, fin _ _ _ h1 g1 t1⟩
def cSlice (r : CSl) (T : CTE) (l u : CTO) : CTE := fun τ G R => T τ G fun c G1 => l τ G1 fun i G2 => u τ G2 fun j G3 => r c i j G3 R
theorem ce_slice {r : CSl} {l u : CTO} {lo hi : Option Expr} (hr : SlR X (lSl (pm X N) r)) (ha : PE X a (lE (pm X N) Ta)) (hl : PO X lo (lO (pm X N) l)) (hu : PO X hi (lO (pm X N) u)) : PE X (.Subscript a (.Slice lo hi none p2) pos) (lE (pm X N) (cSlice r Ta l u)) :=
  PE.imp (pe_slice hr ha hl hu) fun σ H Q hh => by
    obtain ⟨τ, G, R, at0, h, fin⟩ := hh
    exact ⟨τ, G, _, at0, h, fun v c H1 G1 h1 rv g1 t1 => ⟨τ, G1, _, ⟨at0.s.mono t1, g1⟩, h1, fun i H2 G2 h2 g2 t2 => ⟨τ, G2, _, ⟨at0.s.mono (t1.trans t2), g2⟩, h2, fun j H3 G3 h3 g3 t3 => ⟨c, G3, R, rv.mono (t2.trans t3), g3, h3, fin.mono (t1.trans (t2.trans t3))⟩⟩⟩⟩
def cCB (r : CL) (t : CTA) : CTE := fun τ G R => t τ G fun cs G1 => r cs G1 R
theorem lE_CB {r : CL} {σ : L2.St} {H : Hp} {Q : VK} (hh : lE (pm X N) (cCB r As) σ H Q) : tCB (lL (pm X N) r) (lA (pm X N) As) σ H Q := by
  obtain ⟨τ, G, R, at0, h, fin⟩ := hh
  exact ⟨τ, G, _, at0, h, fun vs cs H1 G1 h1 rvs g1 t1 => ⟨cs, G1, R, rvs, g1, h1, fin.mono t1⟩⟩
theorem ce_callB {id : String} {r : CL} (hc : CallR X (.builtin id) (lL (pm X N) r)) (hm : X.mg x = none) (ha : PA X (e :: es) (lA (pm X N) As)) (hv : bootBuiltins x = some (.builtin id) := by decide +kernel) (hg : Gl X x := by rfl) (hn : x ≠ "__name__" := by decide) (hdb : (x == ("__debug__" : Str)) = false := by decide)
    (he : starEach (e :: es) X.env = (false, eval e X.env) :: starEach es X.env := by rfl) (hpl : (backTo pos (starEach es X.env)).any (·.1) = false := by rfl) : PE X (.Call (.Name x p2) (e :: es) [] pos) (lE (pm X N) (cCB r As)) :=
  PE.imp (pe_callB hc hg hm hv ha hn hdb he hpl) fun _ _ _ h => lE_CB h
theorem ce_callTy {id : String} {r : CL} (hc : CallR X (.type id) (lL (pm X N) r)) (hm : X.mg x = none) (ha : PA X (e :: es) (lA (pm X N) As)) (hv : bootBuiltins x = some (.type id) := by decide +kernel) (hg : Gl X x := by rfl) (hn : x ≠ "__name__" := by decide) (hdb : (x == ("__debug__" : Str)) = false := by decide)
    (he : starEach (e :: es) X.env = (false, eval e X.env) :: starEach es X.env := by rfl) (hpl : (backTo pos (starEach es X.env)).any (·.1) = false := by rfl) : PE X (.Call (.Name x p2) (e :: es) [] pos) (lE (pm X N) (cCB r As)) :=
  PE.imp (pe_callTy hc hg hm hv ha hn hdb he hpl) fun _ _ _ h => lE_CB h
end
theorem getD_at {α : Type} {l : List α} {i : Nat} {d : α} (h : i < l.length) : l.getD i d = l[i] := by
  rw [List.getD_eq_getElem?_getD, List.getElem?_eq_getElem h]
  rfl
structure Gam where
  P : Program
  w : World
  K : PySem.W.Frag
  mg : Str → Option Value
  base : Heap
abbrev gam (X : Cx) : Gam := ⟨X.prog, X.w, X.K, X.mg, X.base⟩
/-- the def at f keeps its promise; ar parameters, ds fill up -/
def FnG (Γ : Gam) (N : Nm) (k : Nat) (f : Addr) (sp : CSp) (ds : List CV) (ar : Nat) : Prop :=
  ∃ fd ps dvs dus, FnOk Γ.P Γ.w Γ.K Γ.mg Γ.base CX0 k f fd ps (lSp ⟨Γ.P, Γ.w, Γ.K, N⟩ sp) ∧ ps.length = ar ∧ (∀ H, Reps Γ.K H dvs ds) ∧ Vals dvs dus ∧ Binds Γ.K fd ps dus
def FnN (Γ : Gam) (N : Nm) (x : Str) (k : Nat) (sp : CSp) (ds : List CV) (ar : Nat) : Prop := ∃ f, Γ.mg x = some (.ref f) ∧ PySem.W.keepIn Γ.K (.ref f) = true ∧ FnG Γ N k f sp ds ar
def MeN (Γ : Gam) (N : Nm) (c : Nat) (m : Str) (k : Nat) (sp : CSp) (ds : List CV) (ar : Nat) : Prop := ∃ f, Meth Γ.K (He.ga Γ.K (N.cn c)) m f ∧ FnG Γ N k f sp ds ar
def MkN (Γ : Gam) (N : Nm) (c : Nat) (k : Nat) (sp : CSp) (ds : List CV) (ar : Nat) : Prop :=
  ∃ f, Γ.mg (N.cn c) = some (.ref (He.ga Γ.K (N.cn c))) ∧ Mk Γ.K (He.ga Γ.K (N.cn c)) f ∧ Cls Γ.K (He.ga Γ.K (N.cn c)) ∧ FnG Γ N k f sp ds ar
def PrN (Γ : Gam) (N : Nm) (c : Nat) (f : Str) (k : Nat) (sp : CSp) : Prop := ∃ p g, PropOf Γ.K (He.ga Γ.K (N.cn c)) f p g ∧ FnG Γ N k g sp [] 1
section
variable {X : Cx} {N : Nm} {a : Expr} {es : List Expr} {Ta : CTE} {As : CTA} {pins : List (Addr × Obj)} {s : Shared} {σ : L2.St} {H : Hp} {τ : CSt} {G : CH}
theorem PE.go (ha : PE X a (lE (pm X N) Ta)) {R : CVK} (I : Inv X pins σ H s) (at0 : At0 (pm X N) σ H τ G) (h : Ta τ G R) : wpAny (model X.prog X.w) X.A (eval a X.env) (fun u s1 => ∃ v c H1 G1, Inv X pins σ H1 s1 ∧ RelV v u ∧ Rep X.K H1 v c ∧ RelH (pm X N) H1 G1 ∧ TupSub X.K H H1 ∧ R c G1) X.xe s := by
  refine thn (ha.run pins s σ H (fun v H1 => ∃ c G1, Rep X.K H1 v c ∧ RelH (pm X N) H1 G1 ∧ TupSub X.K H H1 ∧ R c G1) I ⟨τ, G, R, at0, h, fun v c H1 G1 h1 rv g1 t1 => ⟨c, G1, rv, g1, t1, h1⟩⟩) fun u s1 hh => ?_
  obtain ⟨v, H1, I1, rv, c, G1, h1, h2, h3, h4⟩ := hh
  exact ⟨v, c, H1, G1, I1, rv, h1, h2, h3, h4⟩
theorem PA.go (ha : PA X es (lA (pm X N) As)) (pos : Pos) {R : List CV → CH → Prop} (I : Inv X pins σ H s) (at0 : At0 (pm X N) σ H τ G) (h : As τ G R) : wpAny (model X.prog X.w) X.A (spliced (backTo pos (starEach es X.env))) (fun us s1 => ∃ vs cs H1 G1, Inv X pins σ H1 s1 ∧ Vals vs us ∧ Reps X.K H1 vs cs ∧ RelH (pm X N) H1 G1 ∧ TupSub X.K H H1 ∧ R cs G1) X.xe s := by
  refine thn (ha.run pos pins s σ H (fun vs H1 => ∃ cs G1, Reps X.K H1 vs cs ∧ RelH (pm X N) H1 G1 ∧ TupSub X.K H H1 ∧ R cs G1) I ⟨τ, G, R, at0, h, fun v c H1 G1 h1 rv g1 t1 => ⟨c, G1, rv, g1, t1, h1⟩⟩) fun u s1 hh => ?_
  obtain ⟨v, H1, I1, rv, c, G1, h1, h2, h3, h4⟩ := hh
  exact ⟨v, c, H1, G1, I1, rv, h1, h2, h3, h4⟩
end
section
variable {X : Cx} {N : Nm} {k kk ar : Nat} {sp : CSp} {ds : List CV}
theorem FnG.c {f : Addr} (F : FnG (gam X) N k f sp ds ar) (hr : Room kk X.A) (hk : k + 1 ≤ kk) : FnC X N f sp ds ar := by
  obtain ⟨fd, ps, dvs, dus, h1, h2, h3, h4, h5⟩ := F
  exact ⟨fd, ps, k, dvs, dus, h1, hr.mono hk, h2, h3, h4, h5⟩
end
section
variable {X : Cx} {N : Nm} {a b c e o : Expr} {es : List Expr} {Ta Tb To : CTE} {As : CTA} {pos p2 apos : Pos} {x m : Str} {k kk ar : Nat} {sp : CSp} {ds : List CV}
def cCall (sp : CSp) (ds : List CV) (t : CTA) : CTE := fun τ G R => t τ G fun cs G1 => sp (cs ++ ds) G1 R
theorem ce_call (F : FnN (gam X) N x k sp ds ar) (hr : Room kk X.A) (ha : PA X (e :: es) (lA (pm X N) As)) (hk : k + 1 ≤ kk := by first | decide | omega) (hg : Gl X x := by rfl) (hdb : (x == ("__debug__" : Str)) = false := by decide)
    (he : starEach (e :: es) X.env = (false, eval e X.env) :: starEach es X.env := by rfl) (hpl : (backTo pos (starEach es X.env)).any (·.1) = false := by rfl) : PE X (.Call (.Name x p2) (e :: es) [] pos) (lE (pm X N) (cCall sp ds As)) := by
  obtain ⟨f, hm, hkp, F⟩ := F
  refine ⟨fun pins s σ H Q I hh => ?_⟩
  obtain ⟨τ, G, R, at0, h, fin⟩ := hh
  refine wpAny_Call_Name_kw (ld_glob I hg hm ?_ hdb)
  refine PySem.W.callWith_K (h₀ := X.base) I.ok.mod.kin hkp (thn (PA.go ha pos I at0 h) fun us s1 ⟨vs, cs, H1, G1, I1, r, rvs, g1, t1, h1⟩ => ⟨I1.kIn, ?_⟩) he hpl
  exact run3 (F.c hr hk) I1 g1 rvs r h1 (fin.mono t1)
theorem ce_call0 (F : FnN (gam X) N x k sp ds ar) (hr : Room kk X.A) (hk : k + 1 ≤ kk := by first | decide | omega) (hg : Gl X x := by rfl) (hdb : (x == ("__debug__" : Str)) = false := by decide) : PE X (.Call (.Name x p2) [] [] pos) (lE (pm X N) (cCall sp ds cNil)) := by
  obtain ⟨f, hm, hkp, F⟩ := F
  refine ⟨fun pins s σ H Q I hh => ?_⟩
  obtain ⟨τ, G, R, at0, h, fin⟩ := hh
  refine wpAny_Call_Name_kw (ld_glob I hg hm ?_ hdb)
  exact PySem.W.callWith_K0 I.kIn hkp (run3 (F.c hr hk) I at0.h .nil .nil h fin)
abbrev MTab := List (Nat × CSp × List CV)
def MTabOk (Γ : Gam) (N : Nm) (m : Str) (kk : Nat) (t : MTab) : Prop := ∀ q ∈ t, ∃ k ar, k + 1 ≤ kk ∧ MeN Γ N q.1 m k q.2.1 q.2.2 ar
theorem MTabOk.nil {Γ : Gam} {N : Nm} {m : Str} {kk : Nat} : MTabOk Γ N m kk [] := fun q h => by cases h
theorem MTabOk.cons {Γ : Gam} {N : Nm} {m : Str} {kk k ar c : Nat} {t : MTab} {sp : CSp} {ds : List CV} (h : MeN Γ N c m k sp ds ar) (r : MTabOk Γ N m kk t) (hk : k + 1 ≤ kk := by first | decide | omega) : MTabOk Γ N m kk ((c, sp, ds) :: t) := fun q hq => by
  rcases List.mem_cons.mp hq with e | hq
  · subst e; exact ⟨k, ar, hk, h⟩
  · exact r q hq
theorem lookup_mem {α : Type} {c : Nat} {v : α} : ∀ {t : List (Nat × α)}, t.lookup c = some v → (c, v) ∈ t
  | [], h => by cases h
  | (d, u) :: t, h => by
    rw [List.lookup_cons] at h
    split at h
    · rename_i e
      cases h
      rw [beq_iff_eq.mp e]
      exact List.mem_cons_self
    · exact List.mem_cons_of_mem _ (lookup_mem h)
def cMeth (tab : MTab) (To : CTE) (t : CTA) : CTE := fun τ G R => To τ G fun x G1 => ∃ p c fs sd, x = .a (.ref p) ∧ G1 p = some (.ins c fs) ∧ tab.lookup c = some sd ∧ t τ G1 fun cs G2 => sd.1 (x :: (cs ++ sd.2)) G2 R
theorem fc_lookup_none {N : Nm} {K : PySem.W.Frag} {H : Hp} {Ca : Addr} {m : Str} (hm : N.att.contains m = false) : ∀ {vs : List (Str × V)} {fs : List (Nat × CV)}, FC N K H Ca vs fs → vs.lookup m = none
  | [], [], .nil => rfl
  | (g, v) :: vs, q :: fs, .cons h t => by
    obtain ⟨h1, h2, h3, h4⟩ := h
    rw [List.lookup_cons]
    have : (m == g) = false := by
      cases e : (m == g) with
      | false => rfl
      | true =>
        have e2 : m = g := beq_iff_eq.mp e
        have h1 : g = N.an q.1 := h1
        have : N.att.contains m = true := by
          rw [e2, h1]
          unfold Nm.an
          rw [getD_at h2]
          exact List.elem_eq_true_of_mem (List.getElem_mem h2)
        rw [hm] at this
        cases this
    rw [this]
    exact fc_lookup_none hm t
theorem ce_meth {tab : MTab} {pl : Sem Bool} (ok : MTabOk (gam X) N m kk tab) (hr : Room kk X.A) (ho : PE X o (lE (pm X N) To)) (ha : PA X (e :: es) (lA (pm X N) As)) (hm : N.att.contains m = false := by decide +kernel)
    (hst : starEach (e :: es) X.env = (false, eval e X.env) :: starEach es X.env := by rfl) (hpl : (backTo pos (starEach es X.env)).any (·.1) = false := by rfl)
    (ht : eval (.Call (.Attribute o m apos) (e :: es) [] pos) X.env = (do
      let ov ← eval o X.env
      standAt apos.atName
      let (f, first) ← holding [ov] (getMethod ov m pl)
      callWith pos f first (backTo pos (starEach (e :: es) X.env)) (backToKw pos (keywordEach [] X.env))) := by rfl) :
    PE X (.Call (.Attribute o m apos) (e :: es) [] pos) (lE (pm X N) (cMeth tab To As)) := by
  refine ⟨fun pins s σ H Q I hh => ?_⟩
  obtain ⟨τ, G, R, at0, h, fin⟩ := hh
  refine PySem.W.methodCall_KW (pl := pl) (thn (PE.go ho I at0 h) fun u s1 ⟨v, cv, H1, G1, I1, rv, rp, g1, t1, h1⟩ => ?_) ht
  obtain ⟨p, c, fs, sd, ex, eG, el, h1⟩ := h1
  subst ex
  cases rp
  obtain rfl : u = Value.ref p := rv
  obtain ⟨k, ar, hk, f, me, F⟩ := ok _ (lookup_mem el)
  obtain ⟨dx, vs, hH, cl, fc⟩ := g1 _ _ eG
  refine getmeth_ok I1 hH cl me (fc_lookup_none hm fc) ?_
  refine PySem.W.callWith_K (first := [.ref p]) (h₀ := X.base) I.ok.mod.kin me.kp (thn (PA.go ha pos I1 ⟨at0.s.mono t1, g1⟩ h1) fun us s2 ⟨ws, cs, H2, G2, I2, r, rws, g2, t2, h2⟩ => ⟨I2.kIn, ?_⟩) hst hpl
  exact run3 (vs := .ref p :: ws) (us := .ref p :: us) (cs := .a (.ref p) :: cs) (F.c hr hk) I2 g2 (.cons (.a _) rws) (.cons rfl r) h2 (fin.mono (t1.trans t2))
theorem ce_meth0 {tab : MTab} {pl : Sem Bool} (ok : MTabOk (gam X) N m kk tab) (hr : Room kk X.A) (ho : PE X o (lE (pm X N) To)) (hm : N.att.contains m = false := by decide +kernel)
    (ht : eval (.Call (.Attribute o m apos) [] [] pos) X.env = (do
      let ov ← eval o X.env
      standAt apos.atName
      let (f, first) ← holding [ov] (getMethod ov m pl)
      callWith pos f first (backTo pos (starEach [] X.env)) (backToKw pos (keywordEach [] X.env))) := by rfl) :
    PE X (.Call (.Attribute o m apos) [] [] pos) (lE (pm X N) (cMeth tab To cNil)) := by
  refine ⟨fun pins s σ H Q I hh => ?_⟩
  obtain ⟨τ, G, R, at0, h, fin⟩ := hh
  refine PySem.W.methodCall_KW (pl := pl) (thn (PE.go ho I at0 h) fun u s1 ⟨v, cv, H1, G1, I1, rv, rp, g1, t1, h1⟩ => ?_) ht
  obtain ⟨p, c, fs, sd, ex, eG, el, h1⟩ := h1
  subst ex
  cases rp
  obtain rfl : u = Value.ref p := rv
  obtain ⟨k, ar, hk, f, me, F⟩ := ok _ (lookup_mem el)
  obtain ⟨dx, vs, hH, cl, fc⟩ := g1 _ _ eG
  refine getmeth_ok I1 hH cl me (fc_lookup_none hm fc) ?_
  exact PySem.W.callWith_K0 (first := [.ref p]) I1.kIn me.kp (run3 (vs := [.ref p]) (us := [.ref p]) (cs := [.a (.ref p)]) (F.c hr hk) I1 g1 (.cons (.a _) .nil) (.cons rfl .nil) h1 (fin.mono t1))
def cMake (c : Nat) (sp : CSp) (ds : List CV) (t : CTA) : CTE := fun τ G R => t τ G fun cs G1 => ∀ p, G1 p = none → sp (.a (.ref p) :: (cs ++ ds)) (cup G1 p (.ins c [])) fun v G2 => v = .a .non ∧ R (.a (.ref p)) G2
theorem RepO.mkI {m : Pm} {H : Hp} {p dx : Addr} {c : Nat} (h : H p = some (.ins (He.ga m.K (m.N.cn c)) dx [])) (cl : Cls m.K (He.ga m.K (m.N.cn c))) : RepO m H p (.ins c []) := ⟨dx, [], h, cl, .nil⟩
theorem ce_make {c : Nat} (F : MkN (gam X) N c k sp ds ar) (hr : Room kk X.A) (ha : PA X (e :: es) (lA (pm X N) As)) (hx : N.cn c = x := by rfl) (hk : k + 2 ≤ kk := by first | decide | omega) (hg : Gl X x := by rfl) (hdb : (x == ("__debug__" : Str)) = false := by decide)
    (he : starEach (e :: es) X.env = (false, eval e X.env) :: starEach es X.env := by rfl) (hpl : (backTo pos (starEach es X.env)).any (·.1) = false := by rfl) : PE X (.Call (.Name x p2) (e :: es) [] pos) (lE (pm X N) (cMake c sp ds As)) := by
  obtain ⟨f, hm, M, cl, fd, ps, dvs, dus, F1, har, hd, hv, hb⟩ := F
  rw [hx] at hm
  refine ⟨fun pins s σ H Q I hh => ?_⟩
  obtain ⟨τ, G, R, at0, h, fin⟩ := hh
  refine wpAny_Call_Name_kw (ld_glob I hg hm ?_ hdb)
  rw [hx] at M cl
  refine PySem.W.callWith_K (h₀ := X.base) I.ok.mod.kin M.kp (thn (PA.go ha pos I at0 h) fun us s1 ⟨vs, cs, H1, G1, I1, r, rvs, g1, t1, h1⟩ => ⟨I1.kIn, ?_⟩) he hpl
  refine run_make M F1 (hr.mono (by omega)) hb hv pass0 I1 r fun p dx hp hdx hne => ?_
  have hp2 : upd H1 dx (.own p) p = none := by rw [upd_ne (Ne.symm hne)]; exact hp
  have ts : TupSub X.K H1 (upd (upd H1 dx (.own p)) p (.ins (He.ga X.K x) dx [])) := TupSub.trans (.new hdx) (.new hp2)
  subst hx
  have g2 : RelH (pm X N) (upd (upd H1 dx (.own p)) p (.ins (He.ga X.K (N.cn c)) dx [])) (cup G1 p (.ins c [])) := (RelH.new (m := pm X N) g1 hdx).newO hp2 (RepO.mkI (m := pm X N) upd_same cl)
  refine ⟨_, _, _, .cons (.a _) ((rvs.mono ts).append (hd _)), g2, h1 p (g1.fresh hp), fun v cv H' G' hv' rv' g' t' => ?_⟩
  obtain ⟨e1, h2⟩ := hv'
  subst e1
  exact ⟨rv'.at_a, fin _ _ _ _ h2 (.a _) g' (t1.trans (ts.trans t'))⟩
/-- e.f: a field; a property -/
def cAttr (f : Nat) (tab : List (Nat × CSp)) (T : CTE) : CTE := fun τ G R => T τ G fun x G1 => ∃ p c fs, x = .a (.ref p) ∧ G1 p = some (.ins c fs) ∧ match fs.lookup f with
  | some v => R v G1
  | none => ∃ sp, tab.lookup c = some sp ∧ sp [x] G1 R
def PTabOk (Γ : Gam) (N : Nm) (f : Str) (kk : Nat) (t : List (Nat × CSp)) : Prop := ∀ q ∈ t, ∃ k, k + 2 ≤ kk ∧ PrN Γ N q.1 f k q.2
theorem PTabOk.nil {Γ : Gam} {N : Nm} {m : Str} {kk : Nat} : PTabOk Γ N m kk [] := fun q h => by cases h
theorem PTabOk.cons {Γ : Gam} {N : Nm} {m : Str} {kk k c : Nat} {t : List (Nat × CSp)} {sp : CSp} (h : PrN Γ N c m k sp) (r : PTabOk Γ N m kk t) (hk : k + 2 ≤ kk := by first | decide | omega) : PTabOk Γ N m kk ((c, sp) :: t) := fun q hq => by
  rcases List.mem_cons.mp hq with e | hq
  · subst e; exact ⟨k, hk, h⟩
  · exact r q hq
theorem an_inj {N : Nm} (nd : N.att.Nodup) {i j : Nat} (hi : i < N.att.length) (hj : j < N.att.length) (e : N.an i = N.an j) : i = j := by
  unfold Nm.an at e
  rw [getD_at hi, getD_at hj] at e
  exact (List.getElem_inj nd).mp e
theorem fc_lookup {N : Nm} {K : PySem.W.Frag} {H : Hp} {Ca : Addr} (nd : N.att.Nodup) {f : Nat} {c : CV} (hf : f < N.att.length) : ∀ {vs : List (Str × V)} {fs : List (Nat × CV)}, FC N K H Ca vs fs → fs.lookup f = some c → ∃ v, vs.lookup (N.an f) = some v ∧ Rep K H v c ∧ NoAttr K Ca (N.an f)
  | [], [], .nil, e => by cases e
  | (g, v) :: vs, (i, d) :: fs, .cons h t, e => by
    obtain ⟨h1, h2, h3, h4⟩ := h
    have h1 : g = N.an i := h1
    subst h1
    rw [List.lookup_cons] at e ⊢
    by_cases z : f = i
    · subst z
      simp only [beq_self_eq_true] at e ⊢
      cases e
      exact ⟨v, rfl, h3, h4⟩
    · have z1 : (f == i) = false := beq_eq_false_iff_ne.mpr z
      have z2 : (N.an f == N.an i) = false := beq_eq_false_iff_ne.mpr fun q => z (an_inj nd hf h2 q)
      rw [z1] at e
      rw [z2]
      exact fc_lookup nd hf t e
theorem ce_attr {f : Nat} {fn : Str} {tab : List (Nat × CSp)} (ok : PTabOk (gam X) N fn kk tab) (hr : Room kk X.A) (ho : PE X o (lE (pm X N) To)) (nd : N.att.Nodup) (hf : f < N.att.length := by decide +kernel) (hn : N.an f = fn := by rfl) (hb : attributeBase o fn X.env (eval o X.env) = eval o X.env := by rfl) :
    PE X (.Attribute o fn pos) (lE (pm X N) (cAttr f tab To)) := by
  refine ⟨fun pins s σ H Q I hh => ?_⟩
  obtain ⟨τ, G, R, at0, h, fin⟩ := hh
  refine attr_of hb (thn (PE.go ho I at0 h) fun u s1 ⟨v, cv, H1, G1, I1, rv, rp, g1, t1, h1⟩ => ?_)
  obtain ⟨p, c, fs, ex, eG, h1⟩ := h1
  subst ex
  cases rp
  obtain rfl : u = Value.ref p := rv
  obtain ⟨dx, vs, hH, cl, fc⟩ := g1 _ _ eG
  subst hn
  split at h1
  · rename_i cv el
    obtain ⟨v, l, rv, na⟩ := fc_lookup nd hf fc el
    exact getattr_ok I1 hH cl na l fun u' s2 I2 ru => ⟨v, H1, I2, ru, (fin.mono t1).here g1 h1 rv⟩
  · obtain ⟨sp, el, h1⟩ := h1
    obtain ⟨k, hk, pa, ga, hp, fd, ps, dvs, dus, F1, har, hd, hv, hb'⟩ := ok _ (lookup_mem el)
    have hl : dvs = [] := by
      have := hd H
      cases this
      rfl
    refine getprop_ok I1 hH cl hp F1 (hr.mono (by omega)) hb' hv pass0 ?_ (E := E0)
    subst hl
    exact ⟨_, _, _, .cons (.a _) .nil, g1, h1, fin.mono t1⟩
/-- C.f, a constant of the class -/
def CvN (Γ : Gam) (C f : Str) (v : V) : Prop := ∃ a mc u, Γ.mg C = some (.ref a) ∧ ClX.CRead Γ.K a mc ∧ ClX.CVal Γ.K a mc f v u
theorem ce_cval {C f : Str} {v : V} (h : CvN (gam X) C f v) (hg : Gl X C := by rfl) (hdb : (C == ("__debug__" : Str)) = false := by decide) (hb : attributeBase (.Name C p2) f X.env (eval (.Name C p2) X.env) = eval (.Name C p2) X.env := by rfl) :
    PE X (.Attribute (.Name C p2) f pos) (lE (pm X N) (cC v)) := by
  obtain ⟨a, mc, u, hm, r, c⟩ := h
  exact ce_k ((PE.imp (ClX.pe_cval (pe_glob (v := .ref a) hg hm rfl hdb) hb) fun σ H Q q => ⟨a, mc, v, u, rfl, r, c, q⟩))
def cTy (G : CH) : CV → Option String
  | .a .non => some "NoneType"
  | .a (.bl _) => some "bool"
  | .a (.int _) => some "int"
  | .a (.str _) => some "str"
  | .tup _ => some "tuple"
  | .a (.ref p) => (match G p with
    | some (.lst _) => some "list"
    | some (.rls _) => some "list"
    | some (.dic false _) => some "dict"
    | _ => none)
  | _ => none
theorem cTy.of {H : Hp} {G : CH} (g : RelH (pm X N) H G) {v : V} {c : CV} {t : String} (r : Rep X.K H v c) (h : cTy G c = some t) : TyX X.K H v (.type t) := by
  unfold cTy at h
  split at h
  · cases r; cases h; exact .base .non
  · cases r; cases h; exact .base (.bl _)
  · cases r; cases h; exact .base (.int _)
  · cases r; cases h; exact .base (.str _)
  · cases h
    cases r with
    | tup h1 h2 =>
      rcases h1 with ⟨o, e, _⟩ | ⟨o, its, n, e, c, _⟩
      · exact .fTuple e
      · exact .kTuple e c
  · cases r
    split at h
    · rename_i e
      cases h
      obtain ⟨vs, h1, h2⟩ := g _ _ e
      exact .base (.lst h1)
    · rename_i e
      cases h
      obtain ⟨vs, o, h1, h2⟩ := g _ _ e
      exact .base (.frz h1)
    · rename_i e
      cases h
      obtain ⟨ks, h1, h2⟩ := g _ _ e
      exact .base (.dK h1)
    · cases h
  · cases h
def isT (a b : String) : Bool := a == b || (a == "bool" && b == "int")
def tys : List String := ["bool", "int", "str", "tuple", "list", "dict"]
theorem kit_all : (("NoneType" :: tys).all fun a => tys.all fun b => kitB a b == some (isT a b)) = true := by decide +kernel
theorem kit_one {K : PySem.W.Frag} {a b : String} (ha : ("NoneType" :: tys).contains a = true) (hb : tys.contains b = true) : PySem.W.kitOne K (.type a) (.type b) = some (isT a b) :=
  kit_ty (beq_iff_eq.mp (List.all_eq_true.mp (List.all_eq_true.mp kit_all a (List.mem_of_elem_eq_true ha)) b (List.mem_of_elem_eq_true hb)))
theorem cTy_in {G : CH} {c : CV} {t : String} (h : cTy G c = some t) : ("NoneType" :: tys).contains t = true := by
  unfold cTy at h
  repeat' split at h
  all_goals first | (cases h; rfl) | cases h
def cIsi (ts : List String) (T : CTE) : CTE := fun τ G R => T τ G fun c G1 => ∃ t, cTy G1 c = some t ∧ R (.a (.bl (ts.any (isT t)))) G1
theorem ce_isi {T : String} {x1 : Str} (hm : X.mg "isinstance" = none) (hm1 : X.mg x1 = none) (ha : PE X a (lE (pm X N) Ta)) (hb : tys.contains T = true := by decide) (hv1 : bootBuiltins x1 = some (.type T) := by decide +kernel) (hg : Gl X "isinstance" := by rfl) (hg1 : Gl X x1 := by rfl) (hn1 : x1 ≠ "__name__" := by decide) (hd1 : (x1 == ("__debug__" : Str)) = false := by decide)
    (hs : starEach [a, .Name x1 p2] X.env = (false, eval a X.env) :: starEach [.Name x1 p2] X.env := by rfl) (hs2 : starEach [.Name x1 p2] X.env = [(false, eval (.Name x1 p2) X.env)] := by rfl) (hpl : (backTo pos (starEach [.Name x1 p2] X.env)).any (·.1) = false := by rfl) {p3 : Pos} :
    PE X (.Call (.Name "isinstance" p3) [a, .Name x1 p2] [] pos) (lE (pm X N) (cIsi [T] Ta)) := by
  have h := pe_callB (X := X) (pos := pos) (p := p3) (call_isi (X := X)) hg hm (by decide +kernel) (pa_cons ha (pa_cons (pe_bltn (pos := p2) hg1 hm1 hv1 (v := .ty T) rfl hn1 hd1) pa_nil hs2) hs) (by decide) (by decide) hs hpl
  refine PE.imp h fun σ H Q hh => ?_
  obtain ⟨τ, G, R, at0, h, fin⟩ := hh
  refine ⟨τ, G, _, at0, h, fun v c H1 G1 h1 rv g1 t1 => ?_⟩
  obtain ⟨t, ht, h1⟩ := h1
  refine ⟨v, .ty T, .type t, .type T, isT t T, rfl, .ty T, cTy.of g1 rv ht, kit_one (cTy_in ht) hb, ?_⟩
  rw [show ([T].any (isT t)) = isT t T by simp] at h1
  exact (fin.mono t1).at_a g1 h1
theorem ce_isi2 {T T' : String} {x1 x2 : Str} {q1 q2 q3 p3 : Pos} {xx} (hm : X.mg "isinstance" = none) (hm1 : X.mg x1 = none) (hm2 : X.mg x2 = none) (ha : PE X a (lE (pm X N) Ta)) (hb : tys.contains T = true := by decide) (hb' : tys.contains T' = true := by decide) (hv1 : bootBuiltins x1 = some (.type T) := by decide +kernel) (hv2 : bootBuiltins x2 = some (.type T') := by decide +kernel)
    (hg : Gl X "isinstance" := by rfl) (hg1 : Gl X x1 := by rfl) (hn1 : x1 ≠ "__name__" := by decide) (hd1 : (x1 == ("__debug__" : Str)) = false := by decide) (hg2 : Gl X x2 := by rfl) (hn2 : x2 ≠ "__name__" := by decide) (hd2 : (x2 == ("__debug__" : Str)) = false := by decide)
    (hs : starEach [a, .Tuple [.Name x1 q1, .Name x2 q2] xx q3] X.env = (false, eval a X.env) :: starEach [.Tuple [.Name x1 q1, .Name x2 q2] xx q3] X.env := by rfl) (hs2 : starEach [.Tuple [.Name x1 q1, .Name x2 q2] xx q3] X.env = [(false, eval (.Tuple [.Name x1 q1, .Name x2 q2] xx q3) X.env)] := by rfl)
    (hs3 : starEach [.Name x1 q1, .Name x2 q2] X.env = (false, eval (.Name x1 q1) X.env) :: starEach [.Name x2 q2] X.env := by rfl) (hs4 : starEach [.Name x2 q2] X.env = [(false, eval (.Name x2 q2) X.env)] := by rfl)
    (hpl : (backTo pos (starEach [.Tuple [.Name x1 q1, .Name x2 q2] xx q3] X.env)).any (·.1) = false := by rfl) :
    PE X (.Call (.Name "isinstance" p3) [a, .Tuple [.Name x1 q1, .Name x2 q2] xx q3] [] pos) (lE (pm X N) (cIsi [T, T'] Ta)) := by
  have h := pe_callB (X := X) (pos := pos) (p := p3) (call_isiT (X := X)) hg hm (by decide +kernel)
    (pa_cons ha (pa_cons (pe_tup (x1 := xx) (pos := q3) (pa_cons (pe_bltn (pos := q1) hg1 hm1 hv1 (v := .ty T) rfl hn1 hd1) (pa_cons (pe_bltn (pos := q2) hg2 hm2 hv2 (v := .ty T') rfl hn2 hd2) pa_nil hs4) hs3)) pa_nil hs2) hs) (by decide) (by decide) hs hpl
  refine PE.imp h fun σ H Q hh => ?_
  obtain ⟨τ, G, R, at0, h, fin⟩ := hh
  refine ⟨τ, G, _, at0, h, fun v c H1 G1 h1 rv g1 t1 => ?_⟩
  obtain ⟨t, ht, h1⟩ := h1
  refine ⟨by simp [sizeLine_eq], fun p hp => ?_⟩
  have t2 : TupSub X.K H1 (upd H1 p (.tup [.ty T, .ty T'])) := .new hp
  have g2 := RelH.new (m := pm X N) g1 (o := .tup [.ty T, .ty T']) hp
  refine ⟨v, p, [.ty T, .ty T'], .type t, [.type T, .type T'], [T, T'].any (isT t), rfl, upd_same, .cons (.ty T) (.cons (.ty T') .nil), cTy.of g2 (rv.mono t2) ht, ?_, ?_⟩
  · refine kitAny_cons (kit_one (cTy_in ht) hb) (fun e => kitAny_cons (kit_one (cTy_in ht) hb') (fun e' => ?_) (fun e' => ?_)) (fun e => ?_)
    · rw [kitAny_nil]; simp [e, e']
    · simp [e']
    · simp [e]
  · exact (fin.mono (t1.trans t2)).at_a g2 h1
def bty (G : CH) : CV → Option String
  | .tup _ => some "tuple"
  | .a (.str _) => some "str"
  | .a (.ref p) => (match G p with
    | some (.lst _) => some "list"
    | some (.dic _ _) => some "dict"
    | _ => none)
  | _ => none
theorem bty_is {pins : List (Addr × Obj)} {σ : L2.St} {H : Hp} {s : Shared} {G : CH} {v : V} {c : CV} {u : Value} {T : String} (I : Inv X pins σ H s) (g : RelH (pm X N) H G) (rp : Rep X.K H v c) (rv : RelV v u) (h : bty G c = some T) :
    s.TypeIs u T ∧ ∀ a, u = .ref a → ∃ ob, s.heap.get? a = some ob ∧ ob.dict = none := by
  unfold bty at h
  split at h
  · cases h
    cases rp with
    | @tup p vs _ h1 h2 =>
      cases rv
      rcases h1 with ⟨o, e, d⟩ | ⟨o, its, n, e, c, d, _⟩
      · obtain ⟨ho, _, us, _, o2, h1, h2, _⟩ := (show ObjOk X.prog X.w H s.heap p (.frz o (.tup vs)) from I.hok p _ e)
        have : o2 = o := Option.some.inj (h1.symm.trans ho)
        subst this
        refine ⟨⟨o2, h1, h2⟩, fun a z => ?_⟩
        cases z
        exact ⟨o2, h1, d⟩
      · refine ⟨⟨o, I.kIn p o e, c⟩, fun a z => ?_⟩
        cases z
        exact ⟨o, I.kIn p o e, d⟩
  · cases h
    cases rp
    exact tyV_is I rv rfl
  · cases rp
    split at h
    · rename_i e
      cases h
      obtain ⟨vs, h1, h2⟩ := g _ _ e
      exact tyV_is I rv (.inl ⟨rfl, vs, .of h1⟩)
    · rename_i t kvs e
      cases h
      cases t with
      | false =>
        obtain ⟨ks, h1, h2⟩ := g _ _ e
        exact tyV_is I rv (.inr (.inr (.inl ⟨rfl, .inl ⟨_, h1⟩⟩)))
      | true =>
        obtain ⟨zs, hH, tc⟩ := g _ _ e
        obtain ⟨_, _, _, _, _, o, _, _, h1, h2, _⟩ := I.hok _ _ hH |>.1
        cases rv
        refine ⟨⟨o, h1, h2.1⟩, fun a z => ?_⟩
        cases z
        exact ⟨o, h1, h2.2.1⟩
    · cases h
  · cases h
/-- what a method of that name does, by the receiver's type -/
def BmOk (X : Cx) (N : Nm) (name : Str) (r : String → CV → CL) : Prop := ∀ T, (∃ c cs G R, r T c cs G R) → ∃ id, PlainAttrs T ∧ Slot T name id ∧ typeOf (.builtin id) = pure (.type "method_descriptor") ∧ MtR X id (lM (pm X N) (r T))
def cBM (ts : List String) (r : String → CV → CL) (To : CTE) (t : CTA) : CTE := fun τ G R => To τ G fun x G1 => ∃ T, T ∈ ts ∧ bty G1 x = some T ∧ t τ G1 fun cs G2 => r T x cs G2 R
def BmT (X : Cx) (N : Nm) (name : Str) (ts : List String) (r : String → CV → CL) : Prop := ∀ T ∈ ts, ∃ id, PlainAttrs T ∧ Slot T name id ∧ typeOf (.builtin id) = pure (.type "method_descriptor") ∧ MtR X id (lM (pm X N) (r T))
theorem ce_bm {name : Str} {ts : List String} {r : String → CV → CL} (ok : BmT X N name ts r) (ho : PE X o (lE (pm X N) To)) (ha : PA X (e :: es) (lA (pm X N) As))
    (hbase : attributeBase o name X.env (eval o X.env) = eval o X.env := by rfl)
    (hfew : ((backTo pos (starEach (e :: es) X.env)).all (fun x => !x.1) && (backToKw pos (keywordEach [] X.env)).all (fun x => x.1.isSome)
      && decide ((e :: es).length + ([] : List Keyword).length + (if ([] : List Keyword).isEmpty then 0 else 1) < 30)) = true := by rfl)
    (hline : (apos.endLine == pos.line) = true := by rfl) (hs : starEach (e :: es) X.env = (false, eval e X.env) :: starEach es X.env := by rfl) (hplain : (backTo pos (starEach es X.env)).any (·.1) = false := by rfl) :
    PE X (.Call (.Attribute o name apos) (e :: es) [] pos) (lE (pm X N) (cBM ts r To As)) := by
  refine ⟨fun pins s σ H Q I hh => ?_⟩
  obtain ⟨τ, G, R, at0, h, fin⟩ := hh
  refine wpAny_Call_method_late hbase hfew hline rfl (thn (PE.go ho I at0 h) fun u s1 ⟨v, cv, H1, G1, I1, rv, rp, g1, t1, h1⟩ => ?_)
  obtain ⟨T, hT, hty, h1⟩ := h1
  obtain ⟨q1, q2⟩ := bty_is I1 g1 rp rv hty
  obtain ⟨id, pa, slot, ht, hm⟩ := ok T hT
  refine ⟨T, id, pa, slot, ht, q1, q2, ?_⟩
  have hA := PA.go ha pos I1 ⟨at0.s.mono t1, g1⟩ h1
  rw [hs] at hA ⊢
  refine Calls.callWith_builtin (by show (false || (backTo pos (starEach es X.env)).any (·.1)) = false; rw [hplain] <;> rfl) (Calls.evalArgs_plain ?_)
  exact thn hA fun us s2 ⟨ws, cs, H2, G2, I2, r2, rws, g2, t2, h2⟩ => hm pins s2 σ H2 v ws u us Q I2 rv r2 ⟨cv, cs, G2, R, rp.mono t2, rws, g2, h2, fin.mono (t1.trans t2)⟩
theorem ce_bm0 {name : Str} {ts : List String} {r : String → CV → CL} (ok : BmT X N name ts r) (ho : PE X o (lE (pm X N) To))
    (hbase : attributeBase o name X.env (eval o X.env) = eval o X.env := by rfl) (hline : (apos.endLine == pos.line) = true := by rfl) : PE X (.Call (.Attribute o name apos) [] [] pos) (lE (pm X N) (cBM ts r To cNil)) := by
  refine ⟨fun pins s σ H Q I hh => ?_⟩
  obtain ⟨τ, G, R, at0, h, fin⟩ := hh
  refine wpAny_Call_method0_late hbase hline (thn (PE.go ho I at0 h) fun u s1 ⟨v, cv, H1, G1, I1, rv, rp, g1, t1, h1⟩ => ?_)
  obtain ⟨T, hT, hty, h1⟩ := h1
  obtain ⟨q1, q2⟩ := bty_is I1 g1 rp rv hty
  obtain ⟨id, pa, slot, ht, hm⟩ := ok T hT
  exact ⟨T, id, pa, slot, ht, q1, q2, Calls.callWith_builtin rfl (PySem.evalArgs_none (hm pins s1 σ H1 v [] u [] Q I1 rv .nil ⟨cv, [], G1, R, rp, .nil, g1, h1, fin.mono t1⟩))⟩
def cStar (T : CTE) (t : CTA) : CTA := fun τ G R => T τ G fun c G1 => ∃ xs, (c = .tup xs ∨ ∃ p, c = .a (.ref p) ∧ G1.seq p = some xs) ∧ t τ G1 fun cs G2 => R (xs ++ cs) G2
theorem ca_star (ha : PE X a (lE (pm X N) Ta)) (hr : PA X es (lA (pm X N) As)) (hs : starEach (.Starred a p2 :: es) X.env = (true, eval a X.env) :: starEach es X.env := by rfl) : PA X (.Starred a p2 :: es) (lA (pm X N) (cStar Ta As)) := PA.imp (StX.pa_star ha hr hs) fun σ H Q hh => by
  obtain ⟨τ, G, R, at0, h, fin⟩ := hh
  refine ⟨τ, G, _, at0, h, fun v c H1 G1 h1 rv g1 t1 => ?_⟩
  obtain ⟨xs, hc, h1⟩ := h1
  rcases hc with e | ⟨p, e, hq⟩
  · subst e
    cases rv with
    | tup k1 k2 => exact ⟨_, _, rfl, .inl k1.sq, τ, G1, _, ⟨at0.s.mono t1, g1⟩, h1, fun ws cs H2 G2 h2 rws g2 t2 => fin _ _ _ _ h2 ((k2.mono t2).append rws) g2 (t1.trans t2)⟩
  · subst e
    cases rv
    obtain ⟨vs, k1, k2⟩ := g1.seq hq
    exact ⟨_, _, rfl, .inr k1, τ, G1, _, ⟨at0.s.mono t1, g1⟩, h1, fun ws cs H2 G2 h2 rws g2 t2 => fin _ _ _ _ h2 ((k2.mono t2).append rws) g2 (t1.trans t2)⟩
end
abbrev rgC (a b : Int) : List CV := (List.range (b - a).toNat).map fun i => CV.int (a + (i : Nat))
def kAppend : String → CV → CL := fun _ x cs G R => match x with
  | .a (.ref p) => (match cs with
    | [y] => (match G p with
      | some (.lst xs) => xs.length < sizeLine ∧ R (.a .non) (cup G p (.lst (xs ++ [y])))
      | _ => False)
    | _ => False)
  | _ => False
def kExtend : String → CV → CL := fun _ x cs G R => match x with
  | .a (.ref p) => (match cs with
    | [.a (.ref q)] => (match G p with
      | some (.lst xs) => (match G q with
        | some (.lst ys) => xs.length + ys.length ≤ sizeLine ∧ R (.a .non) (cup G p (.lst (xs ++ ys)))
        | _ => False)
      | _ => False)
    | _ => False)
  | _ => False
def kPop : String → CV → CL := fun _ x cs G R => match x with
  | .a (.ref p) => (match G p with
    | some (.lst xs) => (match cs with
      | [] => (match xs[xs.length - 1]? with
        | some y => R y (cup G p (.lst xs.dropLast))
        | none => False)
      | [.a (.int i)] => -(2 ^ 63) ≤ i ∧ i < 2 ^ 63 ∧ (match seqIndex? i xs.length with
        | some k => (match xs[k]? with
          | some y => R y (cup G p (.lst (xs.eraseIdx k)))
          | none => False)
        | none => False)
      | _ => False)
    | _ => False)
  | _ => False
def kGet : String → CV → CL := fun _ x cs G R => match cs with
  | [y] => DictAt G x y fun _ kvs _ k => R ((dval kvs k).getD (.a .non)) G
  | [y, z] => DictAt G x y fun _ kvs _ k => R ((dval kvs k).getD z) G
  | _ => False
/-- flat items alone -/
def IxAt (ys : List V) (y : V) (j : Nat) : Prop := flatV y = true ∧ ys.all flatV = true ∧ ∃ z, ys[j]? = some z ∧ eqV z y = true ∧ ∀ (m : Nat) (z' : V), m < j → ys[m]? = some z' → eqV z' y = false
def kIndex : String → CV → CL := fun T x cs G R => match cs with
  | [.a y] => (match x with
    | .tup xs => T = "tuple" ∧ ∃ (ys : List V) (j : Nat), xs = ys.map CV.a ∧ IxAt ys y j ∧ R (.a (.int (j : Nat))) G
    | .a (.ref p) => T = "list" ∧ ∃ (ys : List V) (j : Nat), G p = some (.lst (ys.map CV.a)) ∧ IxAt ys y j ∧ R (.a (.int (j : Nat))) G
    | _ => False)
  | _ => False
def kJoin : String → CV → CL := fun _ x cs G R => match x with
  | .a (.str a) => (match cs with
    | [.tup xs] => ∃ ys : List Str, xs = ys.map CV.str ∧ (ys.map (·.length)).sum + ys.length * a.length ≤ 16777216 ∧ R (.a (.str (Txt.join a ys))) G
    | [.a (.ref p)] => ∃ ys : List Str, G p = some (.lst (ys.map CV.str)) ∧ (ys.map (·.length)).sum + ys.length * a.length ≤ 16777216 ∧ R (.a (.str (Txt.join a ys))) G
    | _ => False)
  | _ => False
def cList : CL := fun cs G R => match cs with
  | [.tup xs] => ∀ q, G q = none → R (.a (.ref q)) (cup G q (.lst xs))
  | [.a (.ref p)] => (match G p with
    | some (.lst xs) => ∀ q, G q = none → R (.a (.ref q)) (cup G q (.lst xs))
    | some (.rls xs) => ∀ q, G q = none → R (.a (.ref q)) (cup G q (.lst xs))
    | some (.dic _ kvs) => ∀ q, G q = none → R (.a (.ref q)) (cup G q (.lst (kvs.map fun kv => nkV kv.1)))
    | _ => False)
  | _ => False
theorem Reps.zero {K : PySem.W.Frag} {H : Hp} {vs : List V} (h : Reps K H vs []) : vs = [] := by cases h; rfl
section
variable {X : Cx} {N : Nm}
theorem bm_append : BmT X N "append" ["list"] kAppend := by
  intro T hT
  rcases List.mem_singleton.mp hT with rfl
  refine ⟨_, PySem.F.plainAttrs_list, PySem.F.slot_list_append, PySem.F.type_list_append, ?_⟩
  intro pins s σ H x xs v us Q I rx rxs hh
  obtain ⟨c, cs, G, R, hx, hxs, g, h, fin⟩ := hh
  unfold kAppend at h
  split at h
  · split at h
    · split at h
      · rename_i xs e
        cases hx
        obtain ⟨y, rfl, ry⟩ := hxs.one
        obtain ⟨vs, h1, h2⟩ := g _ _ e
        refine mt_append pins s σ H _ _ v us Q I rx rxs ⟨_, vs, y, rfl, rfl, h1, by rw [h2.length]; exact h.1, ?_⟩
        exact fin.putL g h1 (h2.append (.cons ry .nil)) (.a _) h.2
      · exact h.elim
    · exact h.elim
  · exact h.elim
theorem bm_extend : BmT X N "extend" ["list"] kExtend := by
  intro T hT
  rcases List.mem_singleton.mp hT with rfl
  refine ⟨_, PySem.F.plainAttrs_list, PySem.F.slot_list_extend, PySem.F.type_list_extend, ?_⟩
  intro pins s σ H x xs v us Q I rx rxs hh
  obtain ⟨c, cs, G, R, hx, hxs, g, h, fin⟩ := hh
  unfold kExtend at h
  split at h
  · split at h
    · split at h
      · rename_i xs e
        split at h
        · rename_i ys e2
          cases hx
          obtain ⟨y, rfl, ry⟩ := hxs.one
          cases ry
          obtain ⟨vs, h1, h2⟩ := g _ _ e
          obtain ⟨ws, h3, h4⟩ := g _ _ e2
          refine mt_extend pins s σ H _ _ v us Q I rx rxs ⟨_, _, vs, ws, rfl, rfl, h1, h3, by rw [h2.length, h4.length]; exact h.1, ?_⟩
          exact fin.putL g h1 (h2.append h4) (.a _) h.2
        · exact h.elim
      · exact h.elim
    · exact h.elim
  · exact h.elim
theorem bm_pop : BmT X N "pop" ["list"] kPop := by
  intro T hT
  rcases List.mem_singleton.mp hT with rfl
  refine ⟨_, PySem.F.plainAttrs_list, PySem.F.slot_list_pop, PySem.F.type_list_pop, ?_⟩
  intro pins s σ H x xs v us Q I rx rxs hh
  obtain ⟨c, cs, G, R, hx, hxs, g, h, fin⟩ := hh
  unfold kPop at h
  split at h
  · split at h
    · rename_i xs e
      cases hx
      obtain ⟨vs, h1, h2⟩ := g _ _ e
      split at h
      · split at h
        · rename_i y ey
          have := hxs.zero
          subst this
          obtain ⟨w, e1, r1⟩ := h2.get ey
          refine mt_pop pins s σ H _ _ v us Q I rx rxs ⟨_, vs, w, rfl, rfl, h1, by rw [h2.length]; exact e1, ?_⟩
          exact fin.putL g h1 h2.dropLast r1 h
        · exact h.elim
      · obtain ⟨b1, b2, h⟩ := h
        split at h
        · rename_i k ek
          split at h
          · rename_i y ey
            obtain ⟨y1, rfl, ry⟩ := hxs.one
            cases ry
            obtain ⟨w, e1, r1⟩ := h2.get ey
            refine mt_popAt pins s σ H _ _ v us Q I rx rxs ⟨_, vs, _, k, w, rfl, rfl, h1, b1, b2, by rw [h2.length]; exact ek, e1, ?_⟩
            exact fin.putL g h1 (h2.eraseIdx k) r1 h
          · exact h.elim
        · exact h.elim
      · exact h.elim
    · exact h.elim
  · exact h.elim
theorem bm_get (hu : X.A.units + 64 < cLine) : BmT X N "get" ["dict"] kGet := by
  intro T hT
  rcases List.mem_singleton.mp hT with rfl
  refine ⟨_, PySem.F.plainAttrs_dict, PySem.F.slot_dict_get, PySem.F.type_dict_get, ?_⟩
  intro pins s σ H x xs v us Q I rx rxs hh
  obtain ⟨c, cs, G, R, hx, hxs, g, h, fin⟩ := hh
  unfold kGet at h
  split at h
  · obtain ⟨y, rfl, ry⟩ := hxs.one
    obtain ⟨u, rfl, ru⟩ := vals1 rxs
    exact d3_get1 hu I g hx ry rx ru fin h
  · obtain ⟨y, z, rfl, ry, rz⟩ := hxs.two
    obtain ⟨u, u2, rfl, ru, ru2⟩ := vals2 rxs
    exact d3_get2 hu I g hx ry rz rx ru ru2 fin h
  · exact h.elim
theorem bm_index : BmT X N "index" ["tuple", "list"] kIndex := by
  intro T hT
  rcases List.mem_cons.mp hT with rfl | hT
  · refine ⟨_, PySem.F.plainAttrs_tuple, PySem.F.slot_tuple_index, PySem.F.type_tuple_index, ?_⟩
    intro pins s σ H x xs v us Q I rx rxs hh
    obtain ⟨c, cs, G, R, hx, hxs, g, h, fin⟩ := hh
    unfold kIndex at h
    split at h
    · obtain ⟨y, rfl, ry⟩ := hxs.one
      cases ry
      split at h
      · obtain ⟨_, ys, j, rfl, ⟨f1, f2, z, e1, e2, e3⟩, h⟩ := h
        cases hx with
        | @tup p vs _ h1 h2 =>
          have e := h2.atoms_inv
          subst e
          exact mt_tup_indexF pins s σ H _ _ v us Q I rx rxs ⟨_, vs, _, j, z, rfl, rfl, h1.sq, f1, f2, e1, e2, e3, fin.at_a g h⟩
      · exact absurd h.1 (by decide)
      · exact h.elim
    · exact h.elim
  · rcases List.mem_singleton.mp hT with rfl
    refine ⟨_, PySem.F.plainAttrs_list, PySem.F.slot_list_index, PySem.F.type_list_index, ?_⟩
    intro pins s σ H x xs v us Q I rx rxs hh
    obtain ⟨c, cs, G, R, hx, hxs, g, h, fin⟩ := hh
    unfold kIndex at h
    split at h
    · obtain ⟨y, rfl, ry⟩ := hxs.one
      cases ry
      split at h
      · exact absurd h.1 (by decide)
      · obtain ⟨_, ys, j, eG, ⟨f1, f2, z, e1, e2, e3⟩, h⟩ := h
        cases hx
        obtain ⟨vs, h1, h2⟩ := g _ _ eG
        have e := h2.atoms_inv
        subst e
        exact mt_index pins s σ H _ _ v us Q I rx rxs ⟨_, vs, _, j, z, rfl, rfl, .of h1, f1, f2, e1, e2, e3, fin.at_a g h⟩
      · exact h.elim
    · exact h.elim
theorem bm_join : BmT X N "join" ["str"] kJoin := by
  intro T hT
  rcases List.mem_singleton.mp hT with rfl
  refine ⟨_, PySem.F.plainAttrs_str, PySem.F.slot_str_join, PySem.F.type_str_join, ?_⟩
  intro pins s σ H x xs v us Q I rx rxs hh
  obtain ⟨c, cs, G, R, hx, hxs, g, h, fin⟩ := hh
  unfold kJoin at h
  split at h
  · cases hx
    split at h
    · obtain ⟨ys, rfl, hz, h⟩ := h
      obtain ⟨y, rfl, ry⟩ := hxs.one
      cases ry with
      | @tup p vs _ h1 h2 =>
        have e := h2.strs
        subst e
        exact mt_join pins s σ H _ _ v us Q I rx rxs ⟨_, p, ys, rfl, rfl, .inr h1.sq, hz, fin.at_a g h⟩
    · obtain ⟨ys, eG, hz, h⟩ := h
      obtain ⟨y, rfl, ry⟩ := hxs.one
      cases ry
      obtain ⟨vs, h1, h2⟩ := g _ _ eG
      have e := h2.strs
      subst e
      exact mt_join pins s σ H _ _ v us Q I rx rxs ⟨_, _, ys, rfl, rfl, .inl (.of h1), hz, fin.at_a g h⟩
    · exact h.elim
  · exact h.elim
/-- list(dict with tuple keys) -/
theorem list_dit {pins : List (Addr × Obj)} {s : Shared} {σ : L2.St} {H : Hp} {Q : VK} {d : Addr} {zs : List (NestedKey × Addr × V)} (hc : X.calm = true) (I : Inv X pins σ H s) (hH : H d = some (DitE X.prog X.w d zs))
    (q : ∀ p, H p = none → Q (.ref p) (upd H p (.lst (zs.map fun z => V.ref z.2.1)))) : wpAny (model X.prog X.w) X.A (call (.type "list") [.ref d]) (EP X pins σ Q) X.xe s := by
  obtain ⟨hs, z, hn, ks, yc, o, es, ep, ho, hx, hdt, he⟩ := (I.hok _ _ hH).1
  have l1 : es.size = ks.length := by
    have := congrArg List.length he
    rw [List.length_map, Array.length_toList] at this
    exact this
  have l2 : zs.length = ks.length := Paired.length yc
  refine PySem.W.kdl_call (kdl_raw hs hx hdt) (I.ok.hd hc) ho (by omega) fun h' tk acc' c' kp e it => ?_
  have ea : acc'.toList = ks.map fun x => Value.ref x.2.1 := by
    have hl : acc'.toList.length = ks.length := by rw [Array.length_toList, it.1]; exact l1
    apply List.ext_getElem?
    intro j
    rw [List.getElem?_map]
    cases hj : acc'.toList[j]? with
    | none =>
      have h1 := List.getElem?_eq_none_iff.mp hj
      rw [List.getElem?_eq_none (by omega)]
      all_goals rfl
    | some v =>
      obtain ⟨en, hen, hv⟩ := it.2 j v (by rw [← Array.getElem?_toList]; exact hj)
      have qe : es.toList[j]? = (ks.map (entryOfKey (nestedKind X.prog X.w)))[j]? := by rw [he]
      rw [Array.getElem?_toList, hen, List.getElem?_map] at qe
      cases hb : ks[j]? with
      | none =>
        rw [hb] at qe
        exact nomatch (show some en = none from qe)
      | some b =>
        rw [hb] at qe
        have e2 : en = entryOfKey (nestedKind X.prog X.w) b := Option.some.inj qe
        rw [hv, e2]
        all_goals rfl
  have eks : ks.map (fun x => x.2.1) = zs.map fun z => z.2.1 := by
    clear it ea hn z l2 l1 e kp he hdt hx ho hs q
    clear hH
    induction yc with
    | nil => rfl
    | cons h t ih => rw [List.map_cons, List.map_cons, ih, h.2.1]
  have eb : acc'.toList = (zs.map fun x => x.2.1).map Value.ref := by rw [ea, ← eks, List.map_map]; all_goals rfl
  have rv : Vals ((zs.map fun x => x.2.1).map V.ref) acc'.toList := by rw [eb]; exact vals_refs _
  have em : (zs.map fun x => x.2.1).map V.ref = zs.map fun z => V.ref z.2.1 := by rw [List.map_map]; rfl
  rw [em] at rv
  have hz : (zs.map fun z => V.ref z.2.1).length ≤ sizeLine := by rw [List.length_map]; omega
  refine ⟨.ref s.heap.objs.size, _, I.laid (t' := tk) (o := .lst (zs.map fun z => V.ref z.2.1)) kp (Nat.le_refl _) ?_, rfl, q _ (I.hok.fresh (Nat.le_refl _))⟩
  exact ⟨hz, acc'.toList, c', rv, by rw [Array.toArray_toList]; exact e⟩
theorem tc_keys {K : PySem.W.Frag} {H : Hp} : ∀ {zs : List (NestedKey × Addr × V)} {kvs : List (NestedKey × CV)}, TC K H zs kvs → Reps K H (zs.map fun z => V.ref z.2.1) (kvs.map fun kv => nkV kv.1)
  | [], [], .nil => .nil
  | z :: zs, kv :: kvs, .cons h t => by
    rw [List.map_cons, List.map_cons, ← h.1]
    exact .cons h.2.1 (tc_keys t)
theorem kc_keys {K : PySem.W.Frag} {H : Hp} : ∀ {zs : List (Key × V)} {kvs : List (NestedKey × CV)}, KC K H zs kvs → Reps K H (zs.map fun z => kV z.1) (kvs.map fun kv => nkV kv.1)
  | [], [], .nil => .nil
  | (z, u) :: zs, kv :: kvs, .cons h t => by
    rw [List.map_cons, List.map_cons, ← h.1]
    refine .cons ?_ (kc_keys t)
    cases z with
    | inl i => exact .a _
    | inr i => exact .a _
theorem cc_list (hc : X.calm = true) : CallR X (.type "list") (lL (pm X N) cList) := by
  intro pins s σ H xs us Q I r hh
  obtain ⟨cs, G, R, hr, g, h, fin⟩ := hh
  unfold cList at h
  split at h
  · obtain ⟨v, rfl, rv⟩ := hr.one
    cases rv with
    | tup h1 h2 => exact call_list_of pins s σ H _ us Q I r ⟨_, _, rfl, .inr h1.sq, fun l hl => fin.newL g hl h2 (h l (g.fresh hl))⟩
  · obtain ⟨v, rfl, rv⟩ := hr.one
    cases rv
    split at h
    · rename_i e
      obtain ⟨vs, h1, h2⟩ := g _ _ e
      exact call_list_of pins s σ H _ us Q I r ⟨_, vs, rfl, .inl (.of h1), fun l hl => fin.newL g hl h2 (h l (g.fresh hl))⟩
    · rename_i e
      obtain ⟨vs, o, h1, h2⟩ := g _ _ e
      exact call_list_of pins s σ H _ us Q I r ⟨_, vs, rfl, .inl (.inl (.inr ⟨o, h1⟩)), fun l hl => fin.newL g hl h2 (h l (g.fresh hl))⟩
    · rename_i t kvs e
      cases t with
      | false =>
        obtain ⟨ks, h1, h2⟩ := g _ _ e
        exact call_list_dK hc pins s σ H _ us Q I r ⟨_, ks, rfl, h1, fun l hl => fin.newL g hl (kc_keys h2) (h l (g.fresh hl))⟩
      | true =>
        obtain ⟨zs, h1, h2⟩ := g _ _ e
        rw [Vals.ref1 r]
        exact list_dit hc I h1 fun l hl => fin.newL g hl (tc_keys h2) (h l (g.fresh hl))
    · exact h.elim
  · exact h.elim
end
section
variable {X : Cx} {N : Nm} {a b e : Expr} {Ta Tb : CTE} {pos p2 : Pos}
def cRg1 (Ta : CTE) : CSt → CH → (Int → Int → CH → Prop) → Prop := fun τ G R => Ta τ G fun c G1 => ∃ n, c = .a (.int n) ∧ R 0 n G1
def cRg2 (Ta Tb : CTE) : CSt → CH → (Int → Int → CH → Prop) → Prop := fun τ G R => Ta τ G fun c G1 => Tb τ G1 fun d G2 => ∃ i j, c = .a (.int i) ∧ d = .a (.int j) ∧ R i j G2
def lR (m : Pm) (T : CSt → CH → (Int → Int → CH → Prop) → Prop) : L2.St → Hp → (Int → Int → Hp → Prop) → Prop := fun σ H Q => ∃ τ G R, At0 m σ H τ G ∧ T τ G R ∧ ∀ i j H' G', R i j G' → RelH m H' G' → TupSub m.K H H' → Q i j H'
theorem PRg.imp {t t' : L2.St → Hp → (Int → Int → Hp → Prop) → Prop} (h : PRg X e t) (i : ∀ σ H Q, t' σ H Q → t σ H Q) : PRg X e t' := fun pins s σ H Q I q => h pins s σ H Q I (i σ H Q q)
theorem cr_1 (hm : X.mg "range" = none) (ha : PE X a (lE (pm X N) Ta)) (hg : Gl X "range" := by rfl) (na : starEach [a] X.env = (false, eval a X.env) :: starEach [] X.env := by rfl) : PRg X (.Call (.Name "range" p2) [a] [] pos) (lR (pm X N) (cRg1 Ta)) :=
  PRg.imp (prg_1 hg hm ha na) fun σ H Q hh => by
    obtain ⟨τ, G, R, at0, h, fin⟩ := hh
    refine ⟨τ, G, _, at0, h, fun v c H1 G1 h1 rv g1 t1 => ?_⟩
    obtain ⟨n, e, h1⟩ := h1
    subst e
    exact ⟨n, rv.at_a, fin _ _ _ _ h1 g1 t1⟩
theorem cr_2 (hm : X.mg "range" = none) (ha : PE X a (lE (pm X N) Ta)) (hb : PE X b (lE (pm X N) Tb)) (hg : Gl X "range" := by rfl) (na : starEach [a, b] X.env = (false, eval a X.env) :: starEach [b] X.env := by rfl)
    (nb : starEach [b] X.env = (false, eval b X.env) :: starEach [] X.env := by rfl) (hp : (backTo pos (starEach [b] X.env)).any (·.1) = false := by rfl) : PRg X (.Call (.Name "range" p2) [a, b] [] pos) (lR (pm X N) (cRg2 Ta Tb)) :=
  PRg.imp (prg_2 hg hm ha hb na nb hp) fun σ H Q hh => by
    obtain ⟨τ, G, R, at0, h, fin⟩ := hh
    refine ⟨τ, G, _, at0, h, fun v c H1 G1 h1 rv g1 t1 => ⟨τ, G1, _, ⟨at0.s.mono t1, g1⟩, h1, fun v2 c2 H2 G2 h2 rv2 g2 t2 => ?_⟩⟩
    obtain ⟨i, j, e1, e2, h2⟩ := h2
    subst e1 e2
    exact ⟨i, j, rv.at_a, rv2.at_a, fin _ _ _ _ h2 g2 (t1.trans t2)⟩
theorem rg_reps {K : PySem.W.Frag} {H : Hp} (a b : Int) : Reps K H (rgV a b) (rgC a b) := by
  unfold rgV
  have : ∀ l : List Nat, Reps K H (l.map fun i => V.int (a + (i : Nat))) (l.map fun i => CV.int (a + (i : Nat))) := by
    intro l
    induction l with
    | nil => exact .nil
    | cons x r ih => exact .cons (.a _) ih
  exact this _
def cTupRg (T : CSt → CH → (Int → Int → CH → Prop) → Prop) : CTE := fun τ G R => T τ G fun a b G1 => RgOk a b ∧ R (.tup (rgC a b)) G1
def cLstRg (T : CSt → CH → (Int → Int → CH → Prop) → Prop) : CTE := fun τ G R => T τ G fun a b G1 => RgOk a b ∧ ∀ q, G1 q = none → R (.a (.ref q)) (cup G1 q (.lst (rgC a b)))
theorem ce_tupRg {T : CSt → CH → (Int → Int → CH → Prop) → Prop} (hc : X.calm = true) (hm : X.mg "tuple" = none) (he : PRg X e (lR (pm X N) T)) (hg : Gl X "tuple" := by rfl) (na : starEach [e] X.env = (false, eval e X.env) :: starEach [] X.env := by rfl) :
    PE X (.Call (.Name "tuple" p2) [e] [] pos) (lE (pm X N) (cTupRg T)) := PE.imp (pe_tupRgF hc hg hm he na) fun σ H Q hh => by
  obtain ⟨τ, G, R, at0, h, fin⟩ := hh
  exact ⟨τ, G, _, at0, h, fun i j H1 G1 h1 g1 t1 => ⟨h1.1, fun q o hq ho => (fin.mono t1).newT g1 hq ho (rg_reps i j) h1.2⟩⟩
theorem ce_lstRg {T : CSt → CH → (Int → Int → CH → Prop) → Prop} (hc : X.calm = true) (hm : X.mg "list" = none) (he : PRg X e (lR (pm X N) T)) (hg : Gl X "list" := by rfl) (na : starEach [e] X.env = (false, eval e X.env) :: starEach [] X.env := by rfl) :
    PE X (.Call (.Name "list" p2) [e] [] pos) (lE (pm X N) (cLstRg T)) := PE.imp (pe_listRg hc hg hm he na) fun σ H Q hh => by
  obtain ⟨τ, G, R, at0, h, fin⟩ := hh
  exact ⟨τ, G, _, at0, h, fun i j H1 G1 h1 g1 t1 => ⟨h1.1, fun q hq => (fin.mono t1).newL g1 hq (rg_reps i j) (h1.2 q (g1.fresh hq))⟩⟩
end
set_option maxHeartbeats 4000000 in
theorem meets_enum1 {v : Value} {o : Obj} {H : Heap → Prop} (B : Begins v o H) :
    Meets (Builtin.«enumerate.__new__» ⟨[.type "enumerate", v], []⟩) (fun _ R s => H s.heap ∧
      R (.ok (.ret (.ref (s.heap.push o).objs.size))) { s with heap := (s.heap.push o).push { cls := .type "enumerate", data := .fields #[.none, .bool false, .ref s.heap.objs.size, rawInt 0, .none, .none] } }) :=
  .of_wp fun prog w A R s h => by
    obtain ⟨hp, g, d, tk, os⟩ := s; obtain ⟨h1, h⟩ := h
    have hsub := sub_enumerate
    have q1 : ∀ {A' : Around} {E : Value → Shared → Prop} {Q : Value → Shared → Prop}, Q (.ref hp.objs.size) ⟨hp.push o, g, d, tk, os⟩ → wpAny (model prog w) A' (pyIter v) Q E ⟨hp, g, d, tk, os⟩ :=
      fun q => B.iter prog w _ _ ⟨hp, g, d, tk, os⟩ _ h1 q
    wp_walk using q1
    refine wpAny_stack_any fun st => wpAny_pure ?_
    split
    · rename_i c _ _ _ _ _
      cases (c == Value.type "enumerate")
      · wp_walk using q1
        exact ⟨_, rfl, h⟩
      · wp_walk using q1
        exact ⟨_, rfl, h⟩
    · wp_walk using q1
      exact ⟨_, rfl, h⟩
section
variable {prog : Program} {w : World} {A : Around} {E : Value → Shared → Prop} {s : Shared}
theorem enum_begins1 {v : Value} {o : Obj} {H : Heap → Prop} {Q : Value → Shared → Prop} (B : Begins v o H) (h1 : H s.heap)
    (h : ∀ h', IsEnum h' (s.heap.objs.size + 1) s.heap.objs.size 0 .none → h'.get? s.heap.objs.size = some o → h'.objs.size = s.heap.objs.size + 2 →
      (∀ b o, s.heap.get? b = some o → h'.get? b = some o) → Q (.ref (s.heap.objs.size + 1)) { s with heap := h' }) :
    wpAny (model prog w) A (call (.type "enumerate") [v]) Q E s := by
  refine callType_new F.called_enumerate (by decide) (F.typeCall_enumerate_1 _) (F.newCall_enumerate_1 _) (fun obj => F.args_object_init_2 obj _) F.entry_enumerate_new
    (meets_enum1 B) ⟨h1, ?_⟩
  have hz : (s.heap.push o).objs.size = s.heap.objs.size + 1 := Heap.size_push ..
  show _ ∧ _
  rw [hz]
  have he : IsEnum ((s.heap.push o).push { cls := .type "enumerate", data := .fields #[.none, .bool false, .ref s.heap.objs.size, rawInt 0, .none, .none] }) (s.heap.objs.size + 1) s.heap.objs.size 0 .none := by
    have := Heap.get?_push_size (s.heap.push o) (o := { cls := .type "enumerate", data := .fields #[.none, .bool false, .ref s.heap.objs.size, rawInt 0, .none, .none] }) rfl
    rw [hz] at this; exact this
  refine ⟨⟨_, he, rfl⟩, h _ he (Heap.get?_push_of_some _ (Heap.get?_push_size _ B.free)) (by rw [Heap.size_push, hz]) fun b o x => Heap.get?_push_of_some _ (Heap.get?_push_of_some _ x)⟩
end
/-- i, x of a tuple's items in new pairs -/
def IteT (K : PySem.W.Frag) (a : Addr) : It :=
  ⟨fun i H => ∃ (xs : List V) (x : V), SqT K H a xs ∧ xs[i]? = some x, fun i H v H' => ∃ T x, v = .ref T ∧ H T = none ∧ H' = upd H T (.tup [.int (i : Nat), x]) ∧ ∀ xs, SqT K H a xs → xs[i]? = some x, fun i H => ∃ xs : List V, SqT K H a xs ∧ xs.length = i⟩
def IteS (z : Str) : It :=
  ⟨fun i H => i < z.cps.size, fun i H v H' => ∃ T c, v = .ref T ∧ H T = none ∧ H' = upd H T (.tup [.int (i : Nat), .str ⟨#[c]⟩]) ∧ z.cps[i]? = some c, fun i H => z.cps.size = i⟩
theorem enum_ne {h : Heap} {e a it : Addr} {i : Int} {old : Value} {o : Obj} (he : IsEnum h e it i old) (ha : h.get? a = some o) (hc : o.cls = .type "tuple") : e ≠ a := fun z => by
  subst z
  have e2 := Option.some.inj (ha.symm.trans he)
  rw [e2] at hc
  injection hc with h
  exact absurd h (by decide)
theorem turn_enumT {P : Program} {w : World} {K : PySem.W.Frag} {elts : List Expr} {kk : Nat} {tpos : Pos} (a e it : Addr) (hat : a ≠ it) :
    Turn P w K (.Tuple elts kk tpos) (IteT K a) [e, it] e (fun i h => (∃ old, IsEnum h e it ((i : Nat) : Int) old) ∧ h.IsTupleIter it a i ∧ e ≠ it) where
  mem := by simp
  obj := fun i h st b hb => by
    obtain ⟨⟨old, he⟩, ⟨o, ho, hc, hd⟩, _⟩ := st
    have e' : b = e ∨ b = it := by simpa using hb
    rcases e' with z | z
    · rw [z]; exact ⟨_, he, fun v q => nomatch q⟩
    · rw [z]; exact ⟨o, ho, fun v q => by rw [hd] at q; cases q⟩
  keep := fun i h h' st k => let ⟨⟨old, he⟩, hi, hne⟩ := st; ⟨⟨old, k e (by simp) _ he⟩, hi.at fun o q => k it (by simp) o q, hne⟩
  item := by
    intro X hP hw hK hc i pins s σ H E I hf st hg
    subst hP hw hK
    obtain ⟨⟨old, he⟩, hit, hne⟩ := st
    obtain ⟨xs, x, hq, hx⟩ := hg
    obtain ⟨its, rv, p, hz⟩ := I.tuple hq
    obtain ⟨u, hu, ru⟩ := rv.get hx
    have hel : e < s.heap.objs.size := Heap.lt_size he
    have hil : it < s.heap.objs.size := by obtain ⟨_, q, _⟩ := hit; exact Heap.lt_size q
    have hea : e ≠ a := by
      obtain ⟨o, ho, hc, _⟩ := p
      exact enum_ne he ho hc
    have pt : s.heap.IsTuple a its.toArray := p
    have hlt : i < its.toArray.size := by
      obtain ⟨q, _⟩ := List.getElem?_eq_some_iff.mp hu
      simpa using q
    refine wpAny_pyNext_enum_itemD (D := Draws.tuple (by show X.A.handled = none; exact I.ok.hd hc) it a hat its.toArray) he ⟨hit, pt⟩ hlt hne (by simp [hne, hea]) fun x' h' tk hPx ho hst hT hsz hk => ?_
    have ex : x' = u := by
      have q2 : its.toArray[i]? = some u := by simpa using hu
      have q3 : its.toArray[i]? = some x' := hPx
      rw [q2] at q3
      exact (Option.some.inj q3).symm
    subst ex
    have hit' := hst.1
    refine ⟨_, rfl, wpAny_letOwnedTupleGo_enum (s := { s with heap := h', toks := tk + 1 }) ho fun h'' he' sb => ?_⟩
    have hT2 : h''.get? s.heap.objs.size = some { cls := .type "tuple", data := .seq #[.int i tk, x'] } := (sb.2 _ (Nat.ne_of_gt hel)).trans hT
    have new : ObjOk X.prog X.w (upd H s.heap.objs.size (.tup [.int (i : Nat), x])) h'' s.heap.objs.size (.tup [.int (i : Nat), x]) :=
      ⟨by show 2 ≤ sizeLine; decide, [.int i tk, x'], .cons ⟨_, rfl⟩ (.cons ru .nil), ⟨_, hT2, rfl, _, rfl⟩⟩
    have I1 : Inv X pins σ (upd H s.heap.objs.size (.tup [.int (i : Nat), x])) { s with heap := h'', toks := tk + 1 } :=
      I.turnedNew (ch := [e, it]) (fun b ob hb q => (sb.2 b (fun z => hb (by simp [z]))).trans (hk b ob (fun z => hb (by simp [z])) (fun z => hb (by simp [z])) q)) hf (Nat.le_refl _) new
    refine ⟨.ref s.heap.objs.size, _, I1, rfl, ⟨_, x, rfl, I.hok.fresh (Nat.le_refl _), rfl, fun ys hy => by rw [I.tuple_inj hy hq]; exact hx⟩, ⟨⟨x', ?_⟩, hit'.at fun o q => (sb.2 it (Ne.symm hne)).trans q, hne⟩, fun b hb => ?_⟩
    · have e1 : ((i + 1 : Nat) : Int) = (i : Int) + 1 := by omega
      rw [e1]; exact he'
    · have hb' : b < s.heap.objs.size := by
        have e' : b = e ∨ b = it := by simpa using hb
        rcases e' with z | z
        · rw [z]; exact hel
        · rw [z]; exact hil
      rw [upd_ne (Nat.ne_of_lt hb')]
      exact (hf b hb).1
  done := by
    intro X hP hw hK hc i pins s σ H E I hf st hg
    subst hP hw hK
    obtain ⟨⟨old, he⟩, hit, hne⟩ := st
    obtain ⟨xs, hq, hx⟩ := hg
    obtain ⟨its, rv, p, hz⟩ := I.tuple hq
    obtain ⟨f0, f1, f2, f3, f4, f5⟩ := hf it (by simp)
    have hl := rv.length
    have pt : s.heap.IsTuple a its.toArray := p
    have ei : i = its.toArray.size := by rw [List.size_toArray]; omega
    subst ei
    exact wpAny_pyNext_enum_endD (D := Draws.tuple (by show X.A.handled = none; exact I.ok.hd hc) it a hat its.toArray) he ⟨hit, pt⟩ fun h' eb => ⟨rfl, I.turned (t' := s.toks) (fun b o hb q => eb b o hb q) f0 f1 f3 f4 f5⟩
  self := fun A i s Q E st h => let ⟨⟨_, he⟩, _⟩ := st; wpAny_pyIter_enum he h
theorem turn_enumS {P : Program} {w : World} {K : PySem.W.Frag} {elts : List Expr} {kk : Nat} {tpos : Pos} (e it : Addr) (z : Str) (t : Tok) :
    Turn P w K (.Tuple elts kk tpos) (IteS z) [e, it] e (fun i h => (∃ old, IsEnum h e it ((i : Nat) : Int) old) ∧ h.IsStrIter it (strIterType z) z t i ∧ e ≠ it) where
  mem := by simp
  obj := fun i h st b hb => by
    obtain ⟨⟨old, he⟩, ⟨o, ho, hc, hd⟩, _⟩ := st
    have e' : b = e ∨ b = it := by simpa using hb
    rcases e' with z | z
    · rw [z]; exact ⟨_, he, fun v q => nomatch q⟩
    · rw [z]; exact ⟨o, ho, fun v q => by rw [hd] at q; cases q⟩
  keep := fun i h h' st k => let ⟨⟨old, he⟩, hi, hne⟩ := st; ⟨⟨old, k e (by simp) _ he⟩, (let ⟨o, ho, r⟩ := hi; ⟨o, k it (by simp) o ho, r⟩), hne⟩
  item := by
    intro X hP hw hK hc i pins s σ H E I hf st hg
    subst hP hw hK
    obtain ⟨⟨old, he⟩, hit, hne⟩ := st
    have hel : e < s.heap.objs.size := Heap.lt_size he
    have hil : it < s.heap.objs.size := by obtain ⟨_, q, _⟩ := hit; exact Heap.lt_size q
    refine wpAny_pyNext_enum_itemD (D := Draws.text (by show X.A.handled = none; exact I.ok.hd hc) it z t) he hit hg hne (by simp [hne]) fun x' h' tk hPx ho hit' hT hsz hk => ?_
    obtain ⟨c, u, hcx, rfl⟩ := hPx
    refine ⟨_, rfl, wpAny_letOwnedTupleGo_enum (s := { s with heap := h', toks := tk + 1 }) ho fun h'' he' sb => ?_⟩
    have hT2 : h''.get? s.heap.objs.size = some { cls := .type "tuple", data := .seq #[.int i tk, .str ⟨#[c]⟩ u] } := (sb.2 _ (Nat.ne_of_gt hel)).trans hT
    have new : ObjOk X.prog X.w (upd H s.heap.objs.size (.tup [.int (i : Nat), .str ⟨#[c]⟩])) h'' s.heap.objs.size (.tup [.int (i : Nat), .str ⟨#[c]⟩]) :=
      ⟨by show 2 ≤ sizeLine; decide, [.int i tk, .str ⟨#[c]⟩ u], .cons ⟨_, rfl⟩ (.cons ⟨_, rfl⟩ .nil), ⟨_, hT2, rfl, _, rfl⟩⟩
    have I1 : Inv X pins σ (upd H s.heap.objs.size (.tup [.int (i : Nat), .str ⟨#[c]⟩])) { s with heap := h'', toks := tk + 1 } :=
      I.turnedNew (ch := [e, it]) (fun b ob hb q => (sb.2 b (fun z => hb (by simp [z]))).trans (hk b ob (fun z => hb (by simp [z])) (fun z => hb (by simp [z])) q)) hf (Nat.le_refl _) new
    refine ⟨.ref s.heap.objs.size, _, I1, rfl, ⟨_, c, rfl, I.hok.fresh (Nat.le_refl _), rfl, hcx⟩, ⟨⟨.str ⟨#[c]⟩ u, ?_⟩, (let ⟨o, ho, r⟩ := hit'; ⟨o, (sb.2 it (Ne.symm hne)).trans ho, r⟩), hne⟩, fun b hb => ?_⟩
    · have e1 : ((i + 1 : Nat) : Int) = (i : Int) + 1 := by omega
      rw [e1]; exact he'
    · have hb' : b < s.heap.objs.size := by
        have e' : b = e ∨ b = it := by simpa using hb
        rcases e' with z | z
        · rw [z]; exact hel
        · rw [z]; exact hil
      rw [upd_ne (Nat.ne_of_lt hb')]
      exact (hf b hb).1
  done := by
    intro X hP hw hK hc i pins s σ H E I hf st hg
    subst hP hw hK
    obtain ⟨⟨old, he⟩, hit, hne⟩ := st
    obtain ⟨f0, f1, f2, f3, f4, f5⟩ := hf it (by simp)
    have ei : z.cps.size = i := hg
    subst ei
    exact wpAny_pyNext_enum_endD (D := Draws.text (by show X.A.handled = none; exact I.ok.hd hc) it z t) he hit fun h' eb => ⟨rfl, I.turned (t' := s.toks) (fun b o hb q => eb b o hb q) f0 f1 f3 f4 f5⟩
  self := fun A i s Q E st h => let ⟨⟨_, he⟩, _⟩ := st; wpAny_pyIter_enum he h
/-- a value as it comes: known as a clean one, or (wk) a tuple that is only taken apart -/
def IRep (wk : Bool) (K : PySem.W.Frag) (H : Hp) (v : V) (c : CV) : Prop := Rep K H v c ∨ (wk = true ∧ ∃ p vs cs, v = .ref p ∧ c = .tup cs ∧ SqT K H p vs ∧ Reps K H vs cs)
/-- the slots at is alone differ -/
structure Same (is : List Nat) (σ σ' : L2.St) : Prop where
  len : σ'.length = σ.length
  at_ : ∀ j : Nat, j ∉ is → σ'[j]? = σ[j]?
theorem Same.rfl' {is : List Nat} {σ : L2.St} : Same is σ σ := ⟨rfl, fun _ _ => rfl⟩
theorem Same.trans {is js : List Nat} {σ σ1 σ2 : L2.St} (a : Same is σ σ1) (b : Same js σ1 σ2) : Same (is ++ js) σ σ2 := ⟨b.len.trans a.len, fun j hj => (b.at_ j fun z => hj (List.mem_append_right _ z)).trans (a.at_ j fun z => hj (List.mem_append_left _ z))⟩
theorem Same.set {σ : L2.St} {i : Nat} {o : Option V} : Same [i] σ (σ.set i o) := ⟨List.length_set, fun j hj => by rw [List.getElem?_set_ne (fun e => hj (by rw [e]; exact List.mem_singleton.mpr rfl))]⟩
abbrev CG := CV → CSt → CH → (CSt → CH → Prop) → Prop
abbrev CGs := List CV → CSt → CH → (CSt → CH → Prop) → Prop
def lG (m : Pm) (wk : Bool) (is : List Nat) (g : CG) : TG := fun v σ H Q => ∃ c τ G R, IRep wk m.K H v c ∧ At0 m σ H τ G ∧ g c τ G R ∧ ∀ σ' τ' H' G', R τ' G' → At0 m σ' H' τ' G' → TupSub m.K H H' → Same is σ σ' → Q σ' H'
def lGs (m : Pm) (is : List Nat) (g : CGs) : TGs := fun vs σ H Q => ∃ cs τ G R, Reps m.K H vs cs ∧ At0 m σ H τ G ∧ g cs τ G R ∧ ∀ σ' τ' H' G', R τ' G' → At0 m σ' H' τ' G' → TupSub m.K H H' → Same is σ σ' → Q σ' H'
theorem PG.imp {X : Cx} {e : Expr} {t t' : TG} (h : PG X e t) (i : ∀ v σ H Q, t' v σ H Q → t v σ H Q) : PG X e t' := ⟨fun pins s σ H v u Q I r q => h.run pins s σ H v u Q I r (i v σ H Q q)⟩
theorem PGs.imp {X : Cx} {e : List Expr} {t t' : TGs} (h : PGs X e t) (i : ∀ v σ H Q, t' v σ H Q → t v σ H Q) : PGs X e t' := ⟨fun pins s σ H v u Q I r q => h.run pins s σ H v u Q I r (i v σ H Q q)⟩
def cgName (i : Nat) : CG := fun c τ G R => R (τ.set i (some c)) G
def cgNil : CGs := fun cs τ G R => cs = [] ∧ R τ G
def cgCons (g : CG) (u : CGs) : CGs := fun cs τ G R => match cs with
  | c :: r => g c τ G fun τ1 G1 => u r τ1 G1 R
  | [] => False
def cgTup (n : Nat) (u : CGs) : CG := fun c τ G R => match c with
  | .tup cs => cs.length = n ∧ u cs τ G R
  | _ => False
section
variable {X : Cx} {N : Nm} {pos : Pos} {e : Expr} {es : List Expr}
theorem cg_name {i : Nat} {x : Str} (hN : X.N.Nodup) (hi : X.N[i]? = some x := by rfl) (hx : Loc X.env.scope x := by first | exact .inl rfl | exact .inr rfl) (hf : X.fn x = true ∨ X.env.scope.names.lookup x = some .local := by first | exact .inl rfl | exact .inr rfl) : PG X (.Name x pos) (lG (pm X N) false [i] (cgName i)) :=
  PG.imp (pg_name hN hi hx hf) fun v σ H Q hh => by
    obtain ⟨c, τ, G, R, rv, at0, h, fin⟩ := hh
    rcases rv with rv | ⟨z, _⟩
    · exact fin _ _ _ _ h ⟨at0.s.set i rv, at0.h⟩ .rfl' .set
    · cases z
theorem cgs_nil : PGs X [] (lGs (pm X N) [] cgNil) := PGs.imp pgs_nil fun vs σ H Q hh => by
  obtain ⟨cs, τ, G, R, rv, at0, ⟨e, h⟩, fin⟩ := hh
  subst e
  exact ⟨rv.zero, fin _ _ _ _ h at0 .rfl' .rfl'⟩
theorem cgs_cons {is js : List Nat} {g : CG} {u : CGs} (h1 : PG X e (lG (pm X N) false is g)) (h2 : PGs X es (lGs (pm X N) js u)) (hs : (assignEach (e :: es) X.env).map (·.2) = assign e X.env :: (assignEach es X.env).map (·.2) := by rfl) :
    PGs X (e :: es) (lGs (pm X N) (is ++ js) (cgCons g u)) := PGs.imp (pgs_cons h1 h2 hs) fun vs σ H Q hh => by
  obtain ⟨cs, τ, G, R, rv, at0, h, fin⟩ := hh
  unfold cgCons at h
  split at h
  · cases rv with
    | cons r rr =>
      exact ⟨_, _, rfl, _, τ, G, _, .inl r, at0, h, fun σ1 τ1 H1 G1 h1 a1 t1 s1 => ⟨_, τ1, G1, R, rr.mono t1, a1, h1, fun σ2 τ2 H2 G2 h2 a2 t2 s2 => fin _ _ _ _ h2 a2 (t1.trans t2) (s1.trans s2)⟩⟩
  · exact h.elim
theorem cg_tup {wk : Bool} {is : List Nat} {u : CGs} {k n : Nat} (hc : X.calm = true) (h : PGs X es (lGs (pm X N) is u)) (hn : (assignEach es X.env).length = n := by rfl) (hst : (assignEach es X.env).findIdx? (·.1) = none := by rfl) : PG X (.Tuple es k pos) (lG (pm X N) wk is (cgTup n u)) :=
  PG.imp (pg_tup hc h hn hst) fun v σ H Q hh => by
    obtain ⟨c, τ, G, R, rv, at0, h, fin⟩ := hh
    unfold cgTup at h
    split at h
    · rename_i cs
      have q : ∃ p vs, v = .ref p ∧ SqT X.K H p vs ∧ Reps X.K H vs cs := by
        rcases rv with rv | ⟨_, p, vs, cs', e1, e2, e3, e4⟩
        · cases rv with
          | tup h1 h2 => exact ⟨_, _, rfl, h1.sq, h2⟩
        · cases e2
          exact ⟨p, vs, e1, e3, e4⟩
      obtain ⟨p, vs, e1, e2, e3⟩ := q
      exact ⟨p, vs, e1, e2, by rw [e3.length]; exact h.1, cs, τ, G, R, e3, at0, h.2, fin⟩
    · exact h.elim
/-- o[i] = .. as a target -/
def cgSub (To Ti : CTE) (t : CSet) : CG := fun c τ G R => To τ G fun o G1 => Ti τ G1 fun i G2 => t o i c G2 fun G3 => R τ G3
theorem cg_sub {o i : Expr} {To Ti : CTE} {t : CSet} (ho : PE X o (lE (pm X N) To)) (hi : PE X i (lE (pm X N) Ti)) (hs : PSet X (lSet (pm X N) t))
    (ha : ∀ v, assign (.Subscript o i pos) X.env v = (do
      let ov ← holding [v] (eval o X.env)
      let iv ← holding [v, ov] (eval i X.env)
      standAt pos
      holding [v, ov, iv] (setItem ov iv v)
      release [v, ov, iv] []) := by intro _; rfl) : PG X (.Subscript o i pos) (lG (pm X N) false [] (cgSub To Ti t)) := PG.imp (pg_sub ho hi hs ha) fun v σ H Q hh => by
  obtain ⟨c, τ, G, R, rv, at0, h, fin⟩ := hh
  rcases rv with rv | ⟨z, _⟩
  · exact ⟨τ, G, _, at0, h, fun o co H1 G1 h1 ro g1 t1 => ⟨τ, G1, _, ⟨at0.s.mono t1, g1⟩, h1, fun i ci H2 G2 h2 ri g2 t2 => ⟨co, ci, c, G2, _, ro.mono t2, ri, rv.mono (t1.trans t2), g2, h2, fun H3 G3 h3 g3 t3 => fin σ τ H3 G3 h3 ⟨at0.s.mono (t1.trans (t2.trans t3)), g3⟩ (t1.trans (t2.trans t3)) .rfl'⟩⟩⟩
  · cases z
end
structure CSrc where
  items : List CV
  st : CH → Prop
structure SrcOk (m : Pm) (wk : Bool) (J : It) (S : CSrc) (H0 : Hp) : Prop where
  go : ∀ (i : Nat) (c : CV) H G, S.items[i]? = some c → RelH m H G → TupSub m.K H0 H → S.st G → J.go i H ∧ ∀ x H', J.yld i H x H' → RelH m H' G ∧ TupSub m.K H H' ∧ IRep wk m.K H' x c
  stop : ∀ H G, RelH m H G → TupSub m.K H0 H → S.st G → J.stop S.items.length H
abbrev CTI := CSt → CH → (CSrc → CH → Prop) → Prop
def lI (m : Pm) (wk : Bool) (T : CTI) : TI := fun σ H R => ∃ τ G Rc, At0 m σ H τ G ∧ T τ G Rc ∧ ∀ J H' G' (S : CSrc), Rc S G' → RelH m H' G' → TupSub m.K H H' → SrcOk m wk J S H' → R J H'
theorem PI.imp {X : Cx} {tg e : Expr} {t t' : TI} (h : PI X tg e t) (i : ∀ σ H R, t' σ H R → t σ H R) : PI X tg e t' := ⟨fun pins s σ H R I q => h.run pins s σ H R I (i σ H R q)⟩
def sSeq (p : Addr) (xs : List CV) : CSrc := ⟨xs, fun G => G.seq p = some xs⟩
def sVal (xs : List CV) : CSrc := ⟨xs, fun _ => True⟩
theorem src_list {m : Pm} {p : Addr} {xs : List CV} {H0 : Hp} : SrcOk m false (Itl m.K p) (sSeq p xs) H0 := by
  refine ⟨fun i c H G e g _ st => ?_, fun H G g _ st => ?_⟩
  · obtain ⟨vs, h1, h2⟩ := g.seq (show G.seq p = some xs from st)
    obtain ⟨v, e1, r1⟩ := h2.get e
    refine ⟨⟨vs, v, h1, e1⟩, fun x H' y => ?_⟩
    obtain ⟨rfl, y⟩ := y
    have := y vs h1
    rw [e1] at this
    cases this
    exact ⟨g, .rfl', .inl r1⟩
  · obtain ⟨vs, h1, h2⟩ := g.seq (show G.seq p = some xs from st)
    exact ⟨vs, h1, by rw [h2.length]; exact Nat.le_refl _⟩
theorem src_tup {m : Pm} {p : Addr} {vs : List V} {xs : List CV} {H0 : Hp} (hs : SqF m.K H0 p vs) (hr : Reps m.K H0 vs xs) : SrcOk m false (Itt m.K p) (sVal xs) H0 := by
  refine ⟨fun i c H G e g t _ => ?_, fun H G g t _ => ?_⟩
  · obtain ⟨v, e1, r1⟩ := (hr.mono t).get e
    refine ⟨⟨vs, v, (t _ _ hs).sq, e1⟩, fun x H' y => ?_⟩
    obtain ⟨rfl, y⟩ := y
    have := y vs (t _ _ hs).sq
    rw [e1] at this
    cases this
    exact ⟨g, .rfl', .inl r1⟩
  · exact ⟨vs, (t _ _ hs).sq, by rw [hr.length]; exact Nat.le_refl _⟩
theorem src_range {m : Pm} {lo : Int} {n : Nat} {H0 : Hp} : SrcOk m false (Itr lo n) (sVal ((List.range n).map fun i => CV.int (lo + (i : Nat)))) H0 := by
  refine ⟨fun i c H G e g t _ => ?_, fun H G g t _ => ?_⟩
  · rw [show (sVal ((List.range n).map fun i => CV.int (lo + (i : Nat)))).items = (List.range n).map fun i => CV.int (lo + (i : Nat)) from rfl, List.getElem?_map] at e
    by_cases hi : i < n
    · rw [List.getElem?_range hi] at e
      cases e
      refine ⟨hi, fun x H' y => ?_⟩
      obtain ⟨rfl, rfl⟩ := y
      exact ⟨g, .rfl', .inl (.a _)⟩
    · rw [List.getElem?_eq_none (by rw [List.length_range]; omega)] at e
      cases e
  · show n ≤ ((List.range n).map fun i => CV.int (lo + (i : Nat))).length
    rw [List.length_map, List.length_range]
    exact Nat.le_refl _
/-- range(a, b, -1) -/
theorem src_rangeC {m : Pm} {lo c : Int} {n : Nat} {H0 : Hp} : SrcOk m false (Itc lo c n) (sVal ((List.range n).map fun i => CV.int (lo + (i : Nat) * c))) H0 := by
  refine ⟨fun i c' H G e g t _ => ?_, fun H G g t _ => ?_⟩
  · rw [show (sVal ((List.range n).map fun i => CV.int (lo + (i : Nat) * c))).items = (List.range n).map fun i => CV.int (lo + (i : Nat) * c) from rfl, List.getElem?_map] at e
    by_cases hi : i < n
    · rw [List.getElem?_range hi] at e
      cases e
      refine ⟨hi, fun x H' y => ?_⟩
      obtain ⟨rfl, rfl⟩ := y
      exact ⟨g, .rfl', .inl (.a _)⟩
    · rw [List.getElem?_eq_none (by rw [List.length_range]; omega)] at e
      cases e
  · show n ≤ ((List.range n).map fun i => CV.int (lo + (i : Nat) * c)).length
    rw [List.length_map, List.length_range]
    exact Nat.le_refl _
abbrev signs (z : Str) : List CV := z.cps.toList.map fun c => CV.str ⟨#[c]⟩
theorem src_str {m : Pm} {z : Str} {H0 : Hp} : SrcOk m false (Its z) (sVal (signs z)) H0 := by
  refine ⟨fun i c H G e g t _ => ?_, fun H G g t _ => ?_⟩
  · have e : (z.cps.toList.map fun c => CV.str ⟨#[c]⟩)[i]? = some c := e
    rw [List.getElem?_map] at e
    cases q : z.cps.toList[i]? with
    | none => rw [q] at e; cases e
    | some k =>
      rw [q] at e
      cases e
      rw [Array.getElem?_toList] at q
      obtain ⟨hi, _⟩ := Array.getElem?_eq_some_iff.mp q
      refine ⟨hi, fun x H' y => ?_⟩
      obtain ⟨rfl, k', q', rfl⟩ := y
      rw [q] at q'
      cases q'
      exact ⟨g, .rfl', .inl (.a _)⟩
  · show z.cps.size ≤ (z.cps.toList.map fun c => CV.str ⟨#[c]⟩).length
    rw [List.length_map, Array.length_toList]
    exact Nat.le_refl _
section
variable {X : Cx} {N : Nm} {tg e a b : Expr} {Ta Tb : CTE} {pos p2 : Pos}
/-- what an expression's value is walked as (not by an own __iter__) -/
def srcOf (G : CH) (c : CV) : Option CSrc := match c with
  | .tup xs => some (sVal xs)
  | .a (.str z) => some (sVal (signs z))
  | .a (.ref p) => (match G.seq p with
    | some xs => some (sSeq p xs)
    | none => none)
  | _ => none
def ciVal (T : CTE) : CTI := fun τ G R => T τ G fun c G1 => ∃ S, srcOf G1 c = some S ∧ R S G1
theorem ci_val (ha : PE X e (lE (pm X N) Ta)) : PI X tg e (lI (pm X N) false (ciVal Ta)) := by
  refine ⟨fun pins s σ H R I hh => ?_⟩
  obtain ⟨τ, G, Rc, at0, h, fin⟩ := hh
  refine thn (PE.go ha I at0 h) fun u s1 ⟨v, c, H1, G1, I1, rv, rp, g1, t1, S, eS, h1⟩ => ?_
  unfold srcOf at eS
  split at eS
  · rename_i xs
    cases eS
    cases rp with
    | @tup p vs _ k1 k2 =>
      cases rv
      obtain ⟨its, rv, pt, hz⟩ := I1.tuple k1.sq
      refine wpAny_pyIter_tuple (show s1.heap.IsTuple p its.toArray from pt) ?_
      refine ⟨s1.heap.objs.size, [s1.heap.objs.size], _, _, H1, rfl, I1.kept (t' := s1.toks) fun b o e => Heap.get?_push_of_some _ e, turn_tuple p _, ⟨_, Heap.get?_push_size _ rfl, rfl, rfl⟩, fun b hb => ?_, fin _ _ _ _ h1 g1 t1 (src_tup k1 k2)⟩
      have e : b = s1.heap.objs.size := by simpa using hb
      subst e
      exact I1.fpOk (Nat.le_refl _) (I1.hok.fresh (Nat.le_refl _))
  · rename_i z
    cases eS
    cases rp
    obtain ⟨t, rfl⟩ := rv
    cases ha : z.cps.all (· < 128)
    · exact wpAny_pyIter_wide ha (pi_one (tk := s1.toks) I1 _ (turn_str _ z t "str_iterator" (.inr rfl)) ⟨_, Heap.get?_push_size _ rfl, rfl, rfl⟩ (fin _ _ _ _ h1 g1 t1 src_str))
    · exact wpAny_pyIter_ascii ha (pi_one (tk := s1.toks) I1 _ (turn_str _ z t "str_ascii_iterator" (.inl rfl)) ⟨_, Heap.get?_push_size _ rfl, rfl, rfl⟩ (fin _ _ _ _ h1 g1 t1 src_str))
  · rename_i p
    split at eS
    · rename_i xs eq
      cases eS
      cases rp
      cases rv
      obtain ⟨vs, k1, k2⟩ := g1.seq eq
      obtain ⟨its, rv, pl, hz⟩ := I1.list k1
      refine wpAny_pyIter_list pl.isList ?_
      refine ⟨s1.heap.objs.size, [s1.heap.objs.size], _, _, H1, rfl, I1.kept (t' := s1.toks) fun b o e => Heap.get?_push_of_some _ e, turn_list p _, ⟨_, Heap.get?_push_size _ rfl, rfl, rfl⟩, fun b hb => ?_, fin _ _ _ _ h1 g1 t1 src_list⟩
      have e : b = s1.heap.objs.size := by simpa using hb
      subst e
      exact I1.fpOk (Nat.le_refl _) (I1.hok.fresh (Nat.le_refl _))
    · cases eS
  · cases eS
/-- enumerate(e) -/
def enumIt (xs : List CV) : List CV := xs.zipIdx.map fun q => .tup [.a (.int (q.2 : Nat)), q.1]
theorem enumIt_get {xs : List CV} {i : Nat} {c : CV} (h : (enumIt xs)[i]? = some c) : ∃ x, xs[i]? = some x ∧ c = .tup [.a (.int (i : Nat)), x] := by
  unfold enumIt at h
  rw [List.getElem?_map, List.getElem?_zipIdx] at h
  cases e : xs[i]? with
  | none => rw [e] at h; cases h
  | some x =>
    rw [e] at h
    have h := Option.some.inj h
    rw [← h]
    simp
theorem enumIt_length {xs : List CV} : (enumIt xs).length = xs.length := by unfold enumIt; rw [List.length_map, List.length_zipIdx]
theorem pair_new {m : Pm} {H : Hp} {G : CH} {T : Addr} {i : Nat} {x : V} {c : CV} (g : RelH m H G) (r : Rep m.K H x c) (hT : H T = none) :
    RelH m (upd H T (.tup [.int (i : Nat), x])) G ∧ TupSub m.K H (upd H T (.tup [.int (i : Nat), x])) ∧ IRep true m.K (upd H T (.tup [.int (i : Nat), x])) (.ref T) (.tup [.a (.int (i : Nat)), c]) :=
  ⟨g.new hT, .new hT, .inr ⟨rfl, T, _, _, rfl, rfl, .of upd_same, .cons (.a _) (.cons (r.mono (.new hT)) .nil)⟩⟩
def kEnum (R : CSrc → CH → Prop) (c : CV) (G1 : CH) : Prop := match c with
  | .tup xs => R ⟨enumIt xs, fun _ => True⟩ G1
  | .a (.str z) => R ⟨enumIt (signs z), fun _ => True⟩ G1
  | .a (.ref p) => (match G1.seq p with
    | some xs => R ⟨enumIt xs, fun G => G.seq p = some xs⟩ G1
    | none => False)
  | _ => False
def ciEnum (T : CTE) : CTI := fun τ G R => T τ G (kEnum R)
theorem ci_enum {elts : List Expr} {kk : Nat} {tpos : Pos} (hm : X.mg "enumerate" = none) (ha : PE X e (lE (pm X N) Ta)) (hg : Gl X "enumerate" := by rfl) (hs : starEach [e] X.env = [(false, eval e X.env)] := by rfl) (hs2 : starEach [e] X.env = (false, eval e X.env) :: starEach [] X.env := by rfl) :
    PI X (.Tuple elts kk tpos) (.Call (.Name "enumerate" p2) [e] [] pos) (lI (pm X N) true (ciEnum Ta)) := by
  refine ⟨fun pins s σ H R I hh => ?_⟩
  obtain ⟨τ, G, Rc, at0, h, fin⟩ := hh
  have ha1 : PA X [e] (lA (pm X N) (cCons Ta cNil)) := ca_cons ha ca_nil hs2
  refine Call_ (ld_blt I hg hm boot_enumerate (PyProof.Rows.callWith_type1 (thn (PA.go ha1 pos I at0 (R := fun cs G1 => match cs with
    | [c] => kEnum Rc c G1
    | _ => False) h) fun us s1 ⟨vs, cs, H1, G1, I1, r, rvs, g1, t1, h1⟩ => ?_) hs rfl))
  split at h1
  · rename_i c
    unfold kEnum at h1
    obtain ⟨v, rfl, rp⟩ := rvs.one
    obtain ⟨u, rfl, rv⟩ := vals1 r
    split at h1
    · rename_i xs
      cases rp with
      | @tup p vs _ k1 k2 =>
        cases rv
        obtain ⟨its, rv, pt, hz⟩ := I1.tuple k1.sq
        have pt : s1.heap.IsTuple p its.toArray := pt
        refine enum_begins1 (begins_tuple p its.toArray) pt fun h' he hit hsz hk => wpAny_pyIter_enum he ?_
        have I2 : Inv X pins σ H1 { s1 with heap := h' } := I1.kept (t' := s1.toks) hk
        have hpl : p < s1.heap.objs.size := by obtain ⟨o, ho, _⟩ := pt; exact Heap.lt_size ho
        refine ⟨s1.heap.objs.size + 1, [s1.heap.objs.size + 1, s1.heap.objs.size], _, _, H1, rfl, I2, turn_enumT p (s1.heap.objs.size + 1) s1.heap.objs.size (Nat.ne_of_lt hpl), ⟨⟨.none, he⟩, ⟨_, hit, rfl, rfl⟩, Nat.succ_ne_self _⟩, fun b hb => ?_, fin _ _ _ _ h1 g1 t1 ?_⟩
        · have e' : b = s1.heap.objs.size + 1 ∨ b = s1.heap.objs.size := by simpa using hb
          have hle : s1.heap.objs.size ≤ b := by
            rcases e' with z | z
            · rw [z]; exact Nat.le_add_right _ _
            · rw [z]; exact Nat.le_refl _
          exact I1.fpOk hle (I1.hok.fresh hle)
        · refine ⟨fun i c H G e g t _ => ?_, fun H G g t _ => ?_⟩
          · obtain ⟨x, ex, rfl⟩ := enumIt_get e
            obtain ⟨v, e1, r1⟩ := (k2.mono t).get ex
            refine ⟨⟨vs, v, (t _ _ k1).sq, e1⟩, fun x' H' y => ?_⟩
            obtain ⟨T, x2, rfl, hT, rfl, hy⟩ := y
            have := hy vs (t _ _ k1).sq
            rw [e1] at this
            cases this
            exact pair_new g r1 hT
          · refine ⟨vs, (t _ _ k1).sq, ?_⟩
            rw [show (CSrc.items ⟨enumIt xs, fun _ => True⟩).length = (enumIt xs).length from rfl, enumIt_length, k2.length]
    · rename_i z
      cases rp
      obtain ⟨tk, rfl⟩ := rv
      refine enum_begins1 (begins_text z tk) trivial fun h' he hit hsz hk => wpAny_pyIter_enum he ?_
      have I2 : Inv X pins σ H1 { s1 with heap := h' } := I1.kept (t' := s1.toks) hk
      refine ⟨s1.heap.objs.size + 1, [s1.heap.objs.size + 1, s1.heap.objs.size], _, _, H1, rfl, I2, turn_enumS (s1.heap.objs.size + 1) s1.heap.objs.size z tk, ⟨⟨.none, he⟩, ⟨_, hit, rfl, rfl⟩, Nat.succ_ne_self _⟩, fun b hb => ?_, fin _ _ _ _ h1 g1 t1 ?_⟩
      · have e' : b = s1.heap.objs.size + 1 ∨ b = s1.heap.objs.size := by simpa using hb
        have hle : s1.heap.objs.size ≤ b := by
          rcases e' with z | z
          · rw [z]; exact Nat.le_add_right _ _
          · rw [z]; exact Nat.le_refl _
        exact I1.fpOk hle (I1.hok.fresh hle)
      · refine ⟨fun i c H G e g t _ => ?_, fun H G g t _ => ?_⟩
        · obtain ⟨x, ex, rfl⟩ := enumIt_get e
          rw [List.getElem?_map] at ex
          cases q : z.cps.toList[i]? with
          | none => rw [q] at ex; cases ex
          | some k =>
            rw [q] at ex
            cases ex
            rw [Array.getElem?_toList] at q
            obtain ⟨hi, _⟩ := Array.getElem?_eq_some_iff.mp q
            refine ⟨hi, fun x' H' y => ?_⟩
            obtain ⟨T, k', rfl, hT, rfl, hy⟩ := y
            rw [q] at hy
            cases hy
            exact pair_new g (.a _) hT
        · show z.cps.size = (enumIt (signs z)).length
          rw [enumIt_length, List.length_map, Array.length_toList]
    · rename_i p
      split at h1
      · rename_i xs eq
        cases rp
        cases rv
        obtain ⟨vs, k1, k2⟩ := g1.seq eq
        obtain ⟨its, rv, p', hz⟩ := I1.list k1
        refine call_enumerate_list p'.isList fun h' he hit hsz hk => wpAny_pyIter_enum he ?_
        have I2 : Inv X pins σ H1 { s1 with heap := h' } := I1.kept (t' := s1.toks) hk
        refine ⟨s1.heap.objs.size + 1, [s1.heap.objs.size + 1, s1.heap.objs.size], _, _, H1, rfl, I2, turn_enum p (s1.heap.objs.size + 1) s1.heap.objs.size, ⟨⟨.none, he⟩, hit, Nat.succ_ne_self _⟩, fun b hb => ?_, fin _ _ _ _ h1 g1 t1 ?_⟩
        · have e' : b = s1.heap.objs.size + 1 ∨ b = s1.heap.objs.size := by simpa using hb
          have hle : s1.heap.objs.size ≤ b := by
            rcases e' with z | z
            · rw [z]; exact Nat.le_add_right _ _
            · rw [z]; exact Nat.le_refl _
          exact I1.fpOk hle (I1.hok.fresh hle)
        · refine ⟨fun i c H G e g t st => ?_, fun H G g t st => ?_⟩
          · obtain ⟨x, ex, rfl⟩ := enumIt_get e
            obtain ⟨vs, k1, k2⟩ := g.seq (show G.seq p = some xs from st)
            obtain ⟨v, e1, r1⟩ := k2.get ex
            refine ⟨⟨vs, v, k1, e1⟩, fun x' H' y => ?_⟩
            obtain ⟨T, x2, rfl, hT, rfl, hy⟩ := y
            have := hy vs k1
            rw [e1] at this
            cases this
            exact pair_new g r1 hT
          · obtain ⟨vs, k1, k2⟩ := g.seq (show G.seq p = some xs from st)
            refine ⟨vs, k1, ?_⟩
            rw [show (CSrc.items ⟨enumIt xs, fun G => G.seq p = some xs⟩).length = (enumIt xs).length from rfl, enumIt_length, k2.length]
            exact Nat.le_refl _
      · exact h1.elim
    · exact h1.elim
  · exact h1.elim
/-- range(..) -/
def ciRg1 (T : CTE) : CTI := fun τ G R => T τ G fun c G1 => ∃ j : Int, c = .a (.int j) ∧ -(2 ^ 62) ≤ j ∧ j < 2 ^ 62 ∧ R (sVal ((List.range j.toNat).map fun i => CV.int (i : Nat))) G1
def ciRg2 (T U : CTE) : CTI := fun τ G R => T τ G fun c G1 => U τ G1 fun d G2 => ∃ i j : Int, c = .a (.int i) ∧ d = .a (.int j) ∧ (-(2 ^ 62) ≤ i ∧ i < 2 ^ 62 ∧ -(2 ^ 62) ≤ j ∧ j < 2 ^ 62) ∧ R (sVal ((List.range (j - i).toNat).map fun k => CV.int (i + (k : Nat)))) G2
theorem ci_rg1 (hm : X.mg "range" = none) (ha : PE X a (lE (pm X N) Ta)) (hg : Gl X "range" := by rfl) (hs : starEach [a] X.env = [(false, eval a X.env)] := by rfl) (hs2 : starEach [a] X.env = (false, eval a X.env) :: starEach [] X.env := by rfl) : PI X tg (.Call (.Name "range" p2) [a] [] pos) (lI (pm X N) false (ciRg1 Ta)) :=
  PI.imp (pi_range1 hg hm (pa_cons ha pa_nil hs2) hs) fun σ H R hh => by
    obtain ⟨τ, G, Rc, at0, h, fin⟩ := hh
    refine ⟨τ, G, _, at0, h, fun v c H1 G1 h1 rv g1 t1 => ?_⟩
    obtain ⟨j, e, b1, b2, h1⟩ := h1
    subst e
    refine ⟨j, by rw [rv.at_a], b1, b2, fin _ _ _ _ h1 g1 t1 ?_⟩
    have e : ((List.range j.toNat).map fun i => CV.int (i : Nat)) = (List.range j.toNat).map fun i => CV.int (0 + (i : Nat)) := by simp
    rw [e]
    exact src_range
theorem ci_rg2 (hm : X.mg "range" = none) (ha : PE X a (lE (pm X N) Ta)) (hb : PE X b (lE (pm X N) Tb)) (hg : Gl X "range" := by rfl) (hs : starEach [a, b] X.env = [(false, eval a X.env), (false, eval b X.env)] := by rfl) (hs2 : starEach [b] X.env = [(false, eval b X.env)] := by rfl)
    (hs3 : starEach [a, b] X.env = (false, eval a X.env) :: starEach [b] X.env := by rfl) (hs4 : starEach [b] X.env = (false, eval b X.env) :: starEach [] X.env := by rfl) : PI X tg (.Call (.Name "range" p2) [a, b] [] pos) (lI (pm X N) false (ciRg2 Ta Tb)) :=
  PI.imp (pi_range2 hg hm (pa_cons ha (pa_cons hb pa_nil hs4) hs3) hs hs2) fun σ H R hh => by
    obtain ⟨τ, G, Rc, at0, h, fin⟩ := hh
    refine ⟨τ, G, _, at0, h, fun v c H1 G1 h1 rv g1 t1 => ⟨τ, G1, _, ⟨at0.s.mono t1, g1⟩, h1, fun v2 c2 H2 G2 h2 rv2 g2 t2 => ?_⟩⟩
    obtain ⟨i, j, e1, e2, bs, h2⟩ := h2
    subst e1 e2
    exact ⟨i, j, by rw [rv.at_a, rv2.at_a], bs, fin _ _ _ _ h2 g2 (t1.trans t2) src_range⟩
def ciRg3 (T U W : CTE) : CTI := fun τ G R => T τ G fun c G1 => U τ G1 fun d G2 => W τ G2 fun e G3 => ∃ (i j k : Int) (n : Nat), c = .a (.int i) ∧ d = .a (.int j) ∧ e = .a (.int k) ∧ RgC i j k n ∧ R (sVal ((List.range n).map fun m => CV.int (i + (m : Nat) * k))) G3
theorem ci_rg3 {c : Expr} {Tc : CTE} (hm : X.mg "range" = none) (ha : PE X a (lE (pm X N) Ta)) (hb : PE X b (lE (pm X N) Tb)) (hc : PE X c (lE (pm X N) Tc)) (hg : Gl X "range" := by rfl) (hs : starEach [a, b, c] X.env = (false, eval a X.env) :: starEach [b, c] X.env := by rfl) (hs2 : starEach [b, c] X.env = (false, eval b X.env) :: starEach [c] X.env := by rfl)
    (hs3 : starEach [c] X.env = (false, eval c X.env) :: starEach [] X.env := by rfl) (hpl : (backTo pos (starEach [b, c] X.env)).any (·.1) = false := by rfl) : PI X tg (.Call (.Name "range" p2) [a, b, c] [] pos) (lI (pm X N) false (ciRg3 Ta Tb Tc)) :=
  PI.imp (pi_range3 hg hm (pa_cons ha (pa_cons hb (pa_cons hc pa_nil hs3) hs2) hs) hs hpl) fun σ H R hh => by
    obtain ⟨τ, G, Rc, at0, h, fin⟩ := hh
    refine ⟨τ, G, _, at0, h, fun v c H1 G1 h1 rv g1 t1 => ⟨τ, G1, _, ⟨at0.s.mono t1, g1⟩, h1, fun v2 c2 H2 G2 h2 rv2 g2 t2 => ⟨τ, G2, _, ⟨at0.s.mono (t1.trans t2), g2⟩, h2, fun v3 c3 H3 G3 h3 rv3 g3 t3 => ?_⟩⟩⟩
    obtain ⟨i, j, k, n, e1, e2, e3, rg, h3⟩ := h3
    subst e1 e2 e3
    exact ⟨i, j, k, n, by rw [rv.at_a, rv2.at_a, rv3.at_a], rg, fin _ _ _ _ h3 g3 (t1.trans (t2.trans t3)) src_rangeC⟩
end
structure SubS (τ τ' : CSt) : Prop where
  len : τ.length = τ'.length
  at_ : ∀ (i : Nat) (c : CV), τ[i]? = some (some c) → τ'[i]? = some (some c)
theorem SubS.rfl' {τ : CSt} : SubS τ τ := ⟨rfl, fun _ _ e => e⟩
theorem RelS.sub {K : PySem.W.Frag} {H : Hp} {σ : L2.St} {τ τ' : CSt} (r : RelS K H σ τ') (s : SubS τ τ') : RelS K H σ τ := ⟨r.len.trans s.len.symm, fun i c e => r.at_ i c (s.at_ i c e)⟩
def dnS (P : CSt → CH → Prop) : CSt → CH → Prop := fun τ' G' => ∃ τ G, SubS τ τ' ∧ Sub G G' ∧ P τ G
def dnH (P : CH → Prop) : CH → Prop := fun G' => ∃ G, Sub G G' ∧ P G
def dnV (P : CVK) : CVK := fun v G' => ∃ G, Sub G G' ∧ P v G
theorem At0.sub {m : Pm} {σ : L2.St} {H : Hp} {τ τ' : CSt} {G G' : CH} (a : At0 m σ H τ' G') (s : SubS τ τ') (t : Sub G G') : At0 m σ H τ G := ⟨a.s.sub s, a.h.sub t⟩
theorem dnS.here {P : CSt → CH → Prop} {τ : CSt} {G : CH} (h : P τ G) : dnS P τ G := ⟨τ, G, .rfl', .rfl', h⟩
theorem dnH.here {P : CH → Prop} {G : CH} (h : P G) : dnH P G := ⟨G, .rfl', h⟩
theorem dnV.here {P : CVK} {v : CV} {G : CH} (h : P v G) : dnV P v G := ⟨G, .rfl', h⟩
def forL (g : CG) (tb : CTS) (D : CEnds) (st : CH → Prop) : List CV → CSt → CH → Prop
  | [], τ, G => st G ∧ D.nx τ G
  | x :: xs, τ, G => st G ∧ g x τ G fun τ1 G1 => tb { D with nx := dnS (forL g tb D st xs), ct := dnS (forL g tb D st xs), bk := dnS D.nx } τ1 G1
def cFor (wi : CTI) (g : CG) (tb : CTS) : CTS := fun D τ G => wi τ G fun S G1 => forL g tb D S.st S.items τ G1
section
variable {X : Cx} {N : Nm} {tg iter : Expr} {body : List Stmt} {pos : Pos} {wi : CTI} {g : CG} {tb : CTS} {is : List Nat}
theorem drop_cons {α : Type} {l : List α} {i : Nat} (h : i < l.length) : l.drop i = l[i] :: l.drop (i + 1) := List.drop_eq_getElem_cons h
theorem for_turn {m : Pm} {wk : Bool} {J : It} {S : CSrc} {H0 : Hp} {g : CG} {tb : CTS} {C : CEnds} {D : Ends} {is : List Nat} {σ : L2.St} {τ : CSt} {G : CH} (so : SrcOk m wk J S H0) (at0 : At0 m σ H0 τ G) (h : forL g tb C S.st S.items τ G) (fin : FinS m H0 C D) :
    ∃ W : Nat → Nat → L2.St → Hp → Prop, (∃ m, W 0 m σ H0) ∧ ∀ i k σ H, W i k σ H →
      (J.stop i H ∧ D.nx σ H) ∨ (J.go i H ∧ ∃ N : L2.St → Hp → Prop, (∀ σ' H', N σ' H' → ∃ m', m' < k ∧ W (i + 1) m' σ' H') ∧ ∀ x H', J.yld i H x H' → lG m wk is g x σ H' fun σ2 H2 => lS m tb { D with nx := N, ct := N, bk := D.nx } σ2 H2) := by
  let Pv : Nat → L2.St → Hp → Prop := fun i σ H => ∃ τ G, At0 m σ H τ G ∧ TupSub m.K H0 H ∧ forL g tb C S.st (S.items.drop i) τ G
  refine ⟨fun i k σ H => k = S.items.length - i ∧ i ≤ S.items.length ∧ Pv i σ H, ⟨S.items.length, by simp, Nat.zero_le _, τ, G, at0, .rfl', by simpa using h⟩, ?_⟩
  rintro i k σ H ⟨rfl, hi, τ, G, at1, t1, f1⟩
  by_cases hlt : i < S.items.length
  · rw [drop_cons hlt] at f1
    obtain ⟨st, f1⟩ := f1
    obtain ⟨go, yl⟩ := so.go i _ H G (List.getElem?_eq_getElem hlt) at1.h t1 st
    refine .inr ⟨go, Pv (i + 1), fun σ' H' p' => ⟨S.items.length - (i + 1), by omega, rfl, hlt, p'⟩, fun x H' y => ?_⟩
    obtain ⟨g2, t2, r2⟩ := yl x H' y
    refine ⟨_, τ, G, _, r2, ⟨at1.s.mono t2, g2⟩, f1, fun σ3 τ3 H3 G3 h3 a3 t3 _ => ⟨τ3, G3, _, a3, h3, ?_⟩⟩
    have t03 : TupSub m.K H0 H3 := t1.trans (t2.trans t3)
    refine ⟨fun σ4 τ4 H4 G4 ⟨τ5, G5, u1, u2, h4⟩ a4 t4 => ⟨τ5, G5, a4.sub u1 u2, t03.trans t4, h4⟩, fin.rt.mono t03, fun σ4 τ4 H4 G4 ⟨τ5, G5, u1, u2, h4⟩ a4 t4 => fin.nx _ _ _ _ h4 (a4.sub u1 u2) (t03.trans t4), fun σ4 τ4 H4 G4 ⟨τ5, G5, u1, u2, h4⟩ a4 t4 => ⟨τ5, G5, a4.sub u1 u2, t03.trans t4, h4⟩⟩
  · have e : i = S.items.length := by omega
    subst e
    rw [List.drop_length] at f1
    obtain ⟨st, f1⟩ := f1
    exact .inl ⟨so.stop H G at1.h t1 st, fin.nx _ _ _ _ f1 at1 t1⟩
theorem cs_for {wk : Bool} (hp : PassesOwn (model X.prog X.w) X.A X.env X.xe) (hc : X.calm = true) (hi : PI X tg iter (lI (pm X N) wk wi)) (hg : PG X tg (lG (pm X N) wk is g)) (hb : PSs X body (lS (pm X N) tb)) (hs : ∀ x, foldedSetIterable iter X.env x = pure x := by intro _; rfl)
    : PS X (.For tg iter body [] pos) (lS (pm X N) (cFor wi g tb)) := PS.imp (ps_for hp hc hi hg hb hs) fun D σ H hh => by
  obtain ⟨τ, G, C, at0, h, fin⟩ := hh
  refine ⟨τ, G, fun S G1 => forL g tb C S.st S.items τ G1, at0, h, fun J H1 G1 S h1 g1 t1 so => ?_⟩
  obtain ⟨W, w0, w1⟩ := for_turn (is := is) so ⟨at0.s.mono t1, g1⟩ h1 (fin.mono t1)
  exact ⟨W, w0, w1⟩
end
def cwipe (τ : CSt) : List Nat → CSt
  | [] => τ
  | v :: vs => (cwipe τ vs).set v none
theorem RelS.none {K : PySem.W.Frag} {H : Hp} {σ : L2.St} {τ : CSt} (r : RelS K H σ τ) (i : Nat) : RelS K H (σ.set i Option.none) (τ.set i Option.none) := by
  refine ⟨by rw [List.length_set, List.length_set, r.len], fun j d e => ?_⟩
  by_cases z : i = j
  · subst z
    have hl : i < τ.length := by
      have := (List.getElem?_eq_some_iff.mp e).1
      simpa using this
    rw [List.getElem?_set_self hl] at e
    cases e
  · rw [List.getElem?_set_ne z] at e
    rw [List.getElem?_set_ne z]
    exact r.at_ j d e
theorem RelS.wipe {K : PySem.W.Frag} {H : Hp} {σ : L2.St} {τ : CSt} (r : RelS K H σ τ) : ∀ vs : List Nat, RelS K H (L2.wipe σ vs) (cwipe τ vs)
  | [] => r
  | v :: vs => (r.wipe vs).none v
theorem wipe_get (σ : L2.St) : ∀ (vs : List Nat) (j : Nat), j ∉ vs → (L2.wipe σ vs)[j]? = σ[j]?
  | [], j, _ => rfl
  | v :: vs, j, h => by
    unfold L2.wipe
    rw [List.getElem?_set_ne (fun e => h (by rw [e]; exact List.mem_cons_self))]
    exact wipe_get σ vs j fun z => h (List.mem_cons_of_mem _ z)
theorem wipe_in (σ : L2.St) : ∀ (vs : List Nat) (j : Nat), j ∈ vs → (L2.wipe σ vs)[j]? = if j < σ.length then some none else none
  | v :: vs, j, h => by
    unfold L2.wipe
    by_cases e : v = j
    · subst e
      by_cases hl : v < σ.length
      · rw [List.getElem?_set_self (by rw [wipe_length]; exact hl), if_pos hl]
      · rw [List.getElem?_eq_none (by rw [List.length_set, wipe_length]; omega), if_neg hl]
    · rw [List.getElem?_set_ne e]
      refine wipe_in σ vs j ?_
      rcases List.mem_cons.mp h with z | z
      · exact absurd z.symm e
      · exact z
theorem wipe_ext {σ σ' : L2.St} {vs is : List Nat} (s : Same is (L2.wipe σ vs) σ') (hs : ∀ i ∈ is, i ∈ vs) : L2.wipe σ' vs = L2.wipe σ vs := by
  have hl : σ'.length = σ.length := by rw [s.len, wipe_length]
  apply List.ext_getElem?
  intro j
  by_cases hj : j ∈ vs
  · rw [wipe_in _ _ _ hj, wipe_in _ _ _ hj, hl]
  · rw [wipe_get _ _ _ hj, s.at_ j fun z => hj (hs _ z)]
def lcL (g : CG) (tt : CTT) (te : CTE) (st : CH → Prop) (vs : List Nat) (D : Addr) (τ : CSt) (R : CVK) : List CV → CH → Prop
  | [], G => st G ∧ R (.a (.ref D)) G
  | x :: xs, G => st G ∧ g x (cwipe τ vs) G fun τ2 G2 => tt τ2 G2 fun b G3 => if b = true then te τ2 G3 fun y G4 => ∃ acc, G4 D = some (.lst acc) ∧ acc.length < sizeLine ∧ dnH (lcL g tt te st vs D τ R xs) (cup G4 D (.lst (acc ++ [y]))) else dnH (lcL g tt te st vs D τ R xs) G3
def cLc (wi : CTI) (g : CG) (tt : CTT) (te : CTE) (vs : List Nat) : CTE := fun τ G R => wi τ G fun S G1 => ∀ D, G1 D = none → lcL g tt te S.st vs D τ R S.items (cup G1 D (.lst []))
theorem lc_turn {m : Pm} {wk : Bool} {J : It} {S : CSrc} {H0 : Hp} {g : CG} {tt : CTT} {te : CTE} {is vs : List Nat} {σ : L2.St} {τ : CSt} {G : CH} {R : CVK} {Q : VK} {D : Addr} (so : SrcOk m wk J S H0) (hs : ∀ i ∈ is, i ∈ vs) (at0 : At0 m σ H0 τ G) (hD : H0 D = none)
    (h : lcL g tt te S.st vs D τ R S.items (cup G D (.lst []))) (fin : Fin m H0 R Q) :
    ∃ W : Nat → Nat → Hp → Prop, (∃ m, W 0 m (upd H0 D (.lst []))) ∧ ∀ i k H, W i k H →
      (J.stop i H ∧ Q (.ref D) H) ∨ (J.go i H ∧ ∃ Nx : Hp → Prop, (∀ H', Nx H' → ∃ m', m' < k ∧ W (i + 1) m' H') ∧ ∀ x H', J.yld i H x H' → lG m wk is g x (L2.wipe σ vs) H' fun σ2 H2 => L2.wipe σ2 vs = L2.wipe σ vs ∧ lT m tt σ2 H2 fun b H3 =>
        if b = true then lE m te σ2 H3 fun y H4 => ∃ acc, H4 D = some (.lst acc) ∧ acc.length < sizeLine ∧ Nx (upd H4 D (.lst (acc ++ [y]))) else Nx H3) := by
  let Pv : Nat → Hp → Prop := fun i H => ∃ G, RelH m H G ∧ TupSub m.K H0 H ∧ lcL g tt te S.st vs D τ R (S.items.drop i) G
  refine ⟨fun i k H => k = S.items.length - i ∧ i ≤ S.items.length ∧ Pv i H, ⟨S.items.length, by simp, Nat.zero_le _, cup G D (.lst []), at0.h.newO hD (RepO.mkL upd_same .nil), .new hD, by simpa using h⟩, ?_⟩
  rintro i k H ⟨rfl, hi, G, g1, t1, f1⟩
  by_cases hlt : i < S.items.length
  · rw [drop_cons hlt] at f1
    obtain ⟨st, f1⟩ := f1
    obtain ⟨go, yl⟩ := so.go i _ H G (List.getElem?_eq_getElem hlt) g1 t1 st
    refine .inr ⟨go, Pv (i + 1), fun H' p' => ⟨S.items.length - (i + 1), by omega, rfl, hlt, p'⟩, fun x H' y => ?_⟩
    obtain ⟨g2, t2, r2⟩ := yl x H' y
    refine ⟨_, cwipe τ vs, G, _, r2, ⟨(at0.s.mono (t1.trans t2)).wipe vs, g2⟩, f1, fun σ3 τ3 H3 G3 h3 a3 t3 s3 => ⟨wipe_ext s3 hs, τ3, G3, _, a3, h3, fun b H4 G4 h4 g4 t4 => ?_⟩⟩
    have t04 : TupSub m.K H0 H4 := t1.trans (t2.trans (t3.trans t4))
    cases b with
    | false =>
      simp only [Bool.false_eq_true, if_false] at h4 ⊢
      obtain ⟨G5, u5, h4⟩ := h4
      exact ⟨G5, g4.sub u5, t04, h4⟩
    | true =>
      simp only [if_true] at h4 ⊢
      refine ⟨τ3, G4, _, ⟨a3.s.mono t4, g4⟩, h4, fun v c H5 G5 h5 r5 g5 t5 => ?_⟩
      obtain ⟨acc, e5, l5, h5⟩ := h5
      obtain ⟨ws, k1, k2⟩ := g5 _ _ e5
      have nt : NoTup (H5 D) := by rw [k1]; trivial
      obtain ⟨G6, u6, h5⟩ := h5
      exact ⟨ws, k1, by rw [k2.length]; exact l5, G6, (g5.write nt (RepO.mkL upd_same ((k2.append (.cons r5 .nil)).mono (.put nt)))).sub u6, t04.trans (t5.trans (.put nt)), h5⟩
  · have e : i = S.items.length := by omega
    subst e
    rw [List.drop_length] at f1
    obtain ⟨st, f1⟩ := f1
    exact .inl ⟨so.stop H G g1 t1 st, fin _ _ _ _ f1 (.a _) g1 t1⟩
section
variable {X : Cx} {N : Nm} {elt kx tg iter c : Expr} {ifs : List Expr} {scope : Scope} {own : List (Str × Nat)} {pos spos py : Pos} {wi : CTI} {g : CG} {tt : CTT} {te tk : CTE} {is : List Nat} {wk : Bool}
def cYes : CTT := fun _ G R => R true G
theorem cts_nil : PTs X [] (lT (pm X N) cYes) := ⟨fun pins s σ H Q I hh => by
  obtain ⟨τ, G, R, at0, h, fin⟩ := hh
  exact pts_nil.run pins s σ H Q I (fin _ _ _ h at0.h .rfl')⟩
theorem cts_one (h : PT X c (lT (pm X N) tt)) : PTs X [c] (lT (pm X N) tt) := pts_one h
theorem lE_lc {σ : L2.St} {H : Hp} {Q : VK} {vs : List Nat} (hs : ∀ i ∈ is, i ∈ vs) (hh : lE (pm X N) (cLc wi g tt te vs) σ H Q) : tLc (lI (pm X N) wk wi) (lG (pm X N) wk is g) (lT (pm X N) tt) (lE (pm X N) te) vs σ H Q := by
  obtain ⟨τ, G, R, at0, h, fin⟩ := hh
  refine ⟨τ, G, _, at0, h, fun J H1 G1 S h1 g1 t1 so D hD => ?_⟩
  exact lc_turn so hs ⟨at0.s.mono t1, g1⟩ hD (h1 D (g1.fresh hD)) (fin.mono t1)
theorem ce_lc (hc : X.calm = true) (hN : X.N.Nodup) (hi : PI X tg iter (lI (pm X N) wk wi)) (ok : BlkOk X.N X.env.scope scope own) (hs0 : ∀ i ∈ is, i ∈ own.map (·.2))
    (hg : ∀ (s : Shared) (H : Hp) (C : Addr) (cl : List (Str × Addr)) (fp : List Addr), PG (X.blk s H scope (compEnvC scope cl C X.env) fp) tg (lG (pm X N) wk is g)) (ht : ∀ (s : Shared) (H : Hp) (C : Addr) (cl : List (Str × Addr)) (fp : List Addr), PTs (X.blk s H scope (compEnvC scope cl C X.env) fp) ifs (lT (pm X N) tt))
    (he : ∀ (s : Shared) (H : Hp) (C : Addr) (cl : List (Str × Addr)) (fp : List Addr), PE (X.blk s H scope (compEnvC scope cl C X.env) fp) elt (lE (pm X N) te)) (hs : ∀ x, foldedSetIterable iter X.env x = pure x := by intro _; rfl) :
    PE X (.ListComp elt [⟨tg, iter, ifs, 0⟩] scope pos) (lE (pm X N) (cLc wi g tt te (own.map (·.2)))) := PE.imp (pe_lc hc hN hi ok hg ht he hs) fun σ H Q hh => lE_lc hs0 hh
/-- name = [..] on one line, the name a local -/
theorem cs_setLc {i : Nat} {y : Str} (hc : X.calm = true) (hN : X.N.Nodup) (hi : PI X tg iter (lI (pm X N) wk wi)) (ok : BlkOk X.N X.env.scope scope own) (hs0 : ∀ i ∈ is, i ∈ own.map (·.2))
    (hg : ∀ (s : Shared) (H : Hp) (C : Addr) (cl : List (Str × Addr)) (fp : List Addr), PG (X.blk s H scope (compEnvC scope cl C X.env) fp) tg (lG (pm X N) wk is g)) (ht : ∀ (s : Shared) (H : Hp) (C : Addr) (cl : List (Str × Addr)) (fp : List Addr), PTs (X.blk s H scope (compEnvC scope cl C X.env) fp) ifs (lT (pm X N) tt))
    (he : ∀ (s : Shared) (H : Hp) (C : Addr) (cl : List (Str × Addr)) (fp : List Addr), PE (X.blk s H scope (compEnvC scope cl C X.env) fp) elt (lE (pm X N) te)) (hy : X.N[i]? = some y := by rfl) (hyl : X.env.scope.names.lookup y = some .local := by rfl)
    (hsw : swapsWith (.ListComp elt [⟨tg, iter, ifs, 0⟩] scope pos) (some (.Name y py)) spos.line X.env = pure true := by rfl) (hs : ∀ x, foldedSetIterable iter X.env x = pure x := by intro _; rfl) :
    PS X (.Assign [.Name y py] (.ListComp elt [⟨tg, iter, ifs, 0⟩] scope pos) spos) (lS (pm X N) fun D τ G => cLc wi g tt te (own.map (·.2)) τ G fun c G1 => D.nx (τ.set i (some c)) G1) := PS.imp (ps_setLc hc hN hy hyl hsw hi ok hg ht he hs) fun D σ H hh => by
  obtain ⟨τ, G, C, at0, h, fin⟩ := hh
  exact lE_lc hs0 ⟨τ, G, _, at0, h, fun v c H1 G1 h1 rv g1 t1 => fin.nx _ _ _ _ h1 ⟨(at0.s.mono t1).set i rv, g1⟩ t1⟩
/-- {k: v for ..}, keys ints or texts -/
def dcL (g : CG) (tt : CTT) (tk tv : CTE) (st : CH → Prop) (vs : List Nat) (D : Addr) (τ : CSt) (R : CVK) : List CV → CH → Prop
  | [], G => st G ∧ R (.a (.ref D)) G
  | x :: xs, G => st G ∧ g x (cwipe τ vs) G fun τ2 G2 => tt τ2 G2 fun b G3 => if b = true then tk τ2 G3 fun y G4 => tv τ2 G4 fun z G5 => ∃ kvs k, y = nkV (nkK k) ∧ G5 D = some (.dic false kvs) ∧ kvs.length < sizeLine ∧ dnH (dcL g tt tk tv st vs D τ R xs) (cup G5 D (.dic false (dput kvs (nkK k) z))) else dnH (dcL g tt tk tv st vs D τ R xs) G3
def cDc (wi : CTI) (g : CG) (tt : CTT) (tk tv : CTE) (vs : List Nat) : CTE := fun τ G R => wi τ G fun S G1 => ∀ D, G1 D = none → dcL g tt tk tv S.st vs D τ R S.items (cup G1 D (.dic false []))
theorem dc_turn {m : Pm} {wk : Bool} {J : It} {S : CSrc} {H0 : Hp} {g : CG} {tt : CTT} {tk tv : CTE} {is vs : List Nat} {σ : L2.St} {τ : CSt} {G : CH} {R : CVK} {Q : VK} {D : Addr} (so : SrcOk m wk J S H0) (hs : ∀ i ∈ is, i ∈ vs) (at0 : At0 m σ H0 τ G) (hD : H0 D = none)
    (h : dcL g tt tk tv S.st vs D τ R S.items (cup G D (.dic false []))) (fin : Fin m H0 R Q) :
    ∃ W : Nat → Nat → Hp → Prop, (∃ m, W 0 m (upd H0 D (.dK []))) ∧ ∀ i k H, W i k H →
      (J.stop i H ∧ Q (.ref D) H) ∨ (J.go i H ∧ ∃ Nx : Hp → Prop, (∀ H', Nx H' → ∃ m', m' < k ∧ W (i + 1) m' H') ∧ ∀ x H', J.yld i H x H' → lG m wk is g x (L2.wipe σ vs) H' fun σ2 H2 => L2.wipe σ2 vs = L2.wipe σ vs ∧ lT m tt σ2 H2 fun b H3 =>
        if b = true then lE m tk σ2 H3 fun y H4 => lE m tv σ2 H4 fun z H5 => ∃ kvs k, y = kV k ∧ H5 D = some (.dK kvs) ∧ kvs.length < sizeLine ∧ Nx (upd H5 D (.dK (putK kvs k z))) else Nx H3) := by
  let Pv : Nat → Hp → Prop := fun i H => ∃ G, RelH m H G ∧ TupSub m.K H0 H ∧ dcL g tt tk tv S.st vs D τ R (S.items.drop i) G
  refine ⟨fun i k H => k = S.items.length - i ∧ i ≤ S.items.length ∧ Pv i H, ⟨S.items.length, by simp, Nat.zero_le _, cup G D (.dic false []), at0.h.newO hD (RepO.mkK upd_same .nil), .new hD, by simpa using h⟩, ?_⟩
  rintro i k H ⟨rfl, hi, G, g1, t1, f1⟩
  by_cases hlt : i < S.items.length
  · rw [drop_cons hlt] at f1
    obtain ⟨st, f1⟩ := f1
    obtain ⟨go, yl⟩ := so.go i _ H G (List.getElem?_eq_getElem hlt) g1 t1 st
    refine .inr ⟨go, Pv (i + 1), fun H' p' => ⟨S.items.length - (i + 1), by omega, rfl, hlt, p'⟩, fun x H' y => ?_⟩
    obtain ⟨g2, t2, r2⟩ := yl x H' y
    refine ⟨_, cwipe τ vs, G, _, r2, ⟨(at0.s.mono (t1.trans t2)).wipe vs, g2⟩, f1, fun σ3 τ3 H3 G3 h3 a3 t3 s3 => ⟨wipe_ext s3 hs, τ3, G3, _, a3, h3, fun b H4 G4 h4 g4 t4 => ?_⟩⟩
    have t04 : TupSub m.K H0 H4 := t1.trans (t2.trans (t3.trans t4))
    cases b with
    | false =>
      simp only [Bool.false_eq_true, if_false] at h4 ⊢
      obtain ⟨G5, u5, h4⟩ := h4
      exact ⟨G5, g4.sub u5, t04, h4⟩
    | true =>
      simp only [if_true] at h4 ⊢
      refine ⟨τ3, G4, _, ⟨a3.s.mono t4, g4⟩, h4, fun v c H5 G5 h5 r5 g5 t5 => ⟨τ3, G5, _, ⟨a3.s.mono (t4.trans t5), g5⟩, h5, fun u d H6 G6 h6 r6 g6 t6 => ?_⟩⟩
      obtain ⟨kvs, kk, ek, e6, l6, h6⟩ := h6
      subst ek
      obtain ⟨ks, k1, k2⟩ := g6 _ _ e6
      have nt : NoTup (H6 D) := by rw [k1]; trivial
      have er : v = kV kk := by
        cases kk with
        | inl i => exact r5.at_a
        | inr i => exact r5.at_a
      have el : ks.length = kvs.length := Paired.length k2
      have kc2 : KC m.K (upd H6 D (.dK (putK ks kk u))) ks kvs := Paired.mono (fun a b z => ⟨z.1, z.2.mono (.put nt)⟩) k2
      obtain ⟨G7, u7, h6⟩ := h6
      exact ⟨ks, kk, er, k1, by omega, G7, (g6.write nt (RepO.mkK upd_same (kc2.put kk (r6.mono (.put nt))))).sub u7, t04.trans (t5.trans (t6.trans (.put nt))), h6⟩
  · have e : i = S.items.length := by omega
    subst e
    rw [List.drop_length] at f1
    obtain ⟨st, f1⟩ := f1
    exact .inl ⟨so.stop H G g1 t1 st, fin _ _ _ _ f1 (.a _) g1 t1⟩
theorem ce_dc (hc : X.calm = true) (hN : X.N.Nodup) (hi : PI X tg iter (lI (pm X N) wk wi)) (ok : BlkOk X.N X.env.scope scope own) (hs0 : ∀ i ∈ is, i ∈ own.map (·.2))
    (hg : ∀ (s : Shared) (H : Hp) (C : Addr) (cl : List (Str × Addr)) (fp : List Addr), PG (X.blk s H scope (compEnvC scope cl C X.env) fp) tg (lG (pm X N) wk is g)) (ht : ∀ (s : Shared) (H : Hp) (C : Addr) (cl : List (Str × Addr)) (fp : List Addr), PTs (X.blk s H scope (compEnvC scope cl C X.env) fp) ifs (lT (pm X N) tt))
    (hk : ∀ (s : Shared) (H : Hp) (C : Addr) (cl : List (Str × Addr)) (fp : List Addr), PE (X.blk s H scope (compEnvC scope cl C X.env) fp) kx (lE (pm X N) tk))
    (he : ∀ (s : Shared) (H : Hp) (C : Addr) (cl : List (Str × Addr)) (fp : List Addr), PE (X.blk s H scope (compEnvC scope cl C X.env) fp) elt (lE (pm X N) te)) (hs : ∀ x, foldedSetIterable iter X.env x = pure x := by intro _; rfl) :
    PE X (.DictComp kx elt [⟨tg, iter, ifs, 0⟩] scope pos) (lE (pm X N) (cDc wi g tt tk te (own.map (·.2)))) := PE.imp (pe_dc hc hN hi ok hg ht hk he hs) fun σ H Q hh => by
  obtain ⟨τ, G, R, at0, h, fin⟩ := hh
  refine ⟨τ, G, _, at0, h, fun J H1 G1 S h1 g1 t1 so D hD => ?_⟩
  exact dc_turn so hs0 ⟨at0.s.mono t1, g1⟩ hD (h1 D (g1.fresh hD)) (fin.mono t1)
end
def cNext : CTS := fun D τ G => D.nx τ G
def cSeq (t u : CTS) : CTS := fun D τ G => t { D with nx := u D } τ G
def cBreak : CTS := fun D τ G => D.bk τ G
def cCont : CTS := fun D τ G => D.ct τ G
def cDrop (T : CTE) : CTS := fun D τ G => T τ G fun _ G1 => D.nx τ G1
def cRet (T : CTE) : CTS := fun D τ G => T τ G D.rt
def cRetN : CTS := fun D _ G => D.rt (.a .non) G
def cIfS (c : CTT) (t u : CTS) : CTS := fun D τ G => c τ G fun b G1 => if b = true then t D τ G1 else u D τ G1
def cNever : CTS := fun _ _ _ => False
def cSetN (i : Nat) (T : CTE) : CTS := fun D τ G => T τ G fun c G1 => D.nx (τ.set i (some c)) G1
def cAsg (T : CTE) (g : CG) : CTS := fun D τ G => T τ G fun c G1 => g c τ G1 D.nx
def cAug (i : Nat) (T : CTE) (r : C2) : CTS := fun D τ G => ∃ c, τ[i]? = some (some c) ∧ T τ G fun d G1 => r c d G1 fun e G2 => D.nx (τ.set i (some e)) G2
/-- while: so many turns at most -/
def whL (c : CTT) (tb : CTS) (D : CEnds) : Nat → CSt → CH → Prop
  | 0, _, _ => False
  | n + 1, τ, G => c τ G fun b G1 => if b = true then tb { D with nx := dnS (whL c tb D n), ct := dnS (whL c tb D n), bk := dnS D.nx } τ G1 else D.nx τ G1
def cWhile (c : CTT) (tb : CTS) : CTS := fun D τ G => ∃ n, whL c tb D n τ G
def putC (f : Nat) (y : CV) : List (Nat × CV) → List (Nat × CV)
  | [] => [(f, y)]
  | (g, x) :: r => if g = f then (g, y) :: r else (g, x) :: putC f y r
/-- e.f = value, e of the class c -/
def cFld (c f : Nat) (To Tv : CTE) : CTS := fun D τ G => Tv τ G fun y G1 => To τ G1 fun x G2 => ∃ p fs, x = .a (.ref p) ∧ G2 p = some (.ins c fs) ∧ fs.length < 1000 ∧ D.nx τ (cup G2 p (.ins c (putC f y fs)))
section
variable {X : Cx} {N : Nm} {a c e o : Expr} {st : Stmt} {sts body orelse : List Stmt} {T To Tv : CTE} {t u tb : CTS} {tc : CTT} {pos pos' : Pos}
theorem css_nil : PSs X [] (lS (pm X N) cNext) := PSs.imp pss_nil fun D σ H hh => by
  obtain ⟨τ, G, C, at0, h, fin⟩ := hh
  exact fin.nx _ _ _ _ h at0 .rfl'
theorem lS_end {m : Pm} {H : Hp} {C : CEnds} {D : Ends} (fin : FinS m H C D) (U : CTS) : FinS m H { C with nx := U C } { D with nx := lS m U D } :=
  ⟨fun σ τ H' G' h a t => ⟨τ, G', C, a, h, fin.mono t⟩, fin.rt, fin.bk, fin.ct⟩
theorem css_cons (h1 : PS X st (lS (pm X N) t)) (h2 : PSs X sts (lS (pm X N) u)) : PSs X (st :: sts) (lS (pm X N) (cSeq t u)) := PSs.imp (pss_cons h1 h2) fun D σ H hh => by
  obtain ⟨τ, G, C, at0, h, fin⟩ := hh
  exact ⟨τ, G, _, at0, h, lS_end fin u⟩
theorem css_one (h1 : PS X st (lS (pm X N) t)) : PSs X [st] (lS (pm X N) t) := pss_one h1
theorem css_never {sts : List Stmt} : PSs X sts (lS (pm X N) cNever) := PSs.imp pss_never fun D σ H hh => by
  obtain ⟨τ, G, C, at0, h, fin⟩ := hh
  exact h
theorem cs_never : PS X st (lS (pm X N) cNever) := PS.imp ps_never fun D σ H hh => by
  obtain ⟨τ, G, C, at0, h, fin⟩ := hh
  exact h
theorem cs_pass : PS X (.Pass pos) (lS (pm X N) cNext) := PS.imp ps_pass fun D σ H hh => by
  obtain ⟨τ, G, C, at0, h, fin⟩ := hh
  exact fin.nx _ _ _ _ h at0 .rfl'
theorem cs_break : PS X (.Break pos) (lS (pm X N) cBreak) := PS.imp ps_break fun D σ H hh => by
  obtain ⟨τ, G, C, at0, h, fin⟩ := hh
  exact fin.bk _ _ _ _ h at0 .rfl'
theorem cs_cont : PS X (.Continue pos) (lS (pm X N) cCont) := PS.imp ps_continue fun D σ H hh => by
  obtain ⟨τ, G, C, at0, h, fin⟩ := hh
  exact fin.ct _ _ _ _ h at0 .rfl'
theorem cs_doc {x : Str} {j} : PS X (.Expr (.Constant (.str x) j pos) pos') (lS (pm X N) cNext) := PS.imp ps_doc fun D σ H hh => by
  obtain ⟨τ, G, C, at0, h, fin⟩ := hh
  exact fin.nx _ _ _ _ h at0 .rfl'
theorem cs_expr (he : PE X e (lE (pm X N) T)) (hs : swapsWith e none pos.line X.env = pure false := by rfl) : PS X (.Expr e pos) (lS (pm X N) (cDrop T)) := PS.imp (ps_expr he hs) fun D σ H hh => by
  obtain ⟨τ, G, C, at0, h, fin⟩ := hh
  exact ⟨τ, G, _, at0, h, fun v cv H1 G1 h1 rv g1 t1 => fin.nx _ _ _ _ h1 ⟨at0.s.mono t1, g1⟩ t1⟩
theorem cs_ret (he : PE X e (lE (pm X N) T)) : PS X (.Return (some e) pos) (lS (pm X N) (cRet T)) := PS.imp (ps_ret he) fun D σ H hh => by
  obtain ⟨τ, G, C, at0, h, fin⟩ := hh
  exact ⟨τ, G, _, at0, h, fin.rt⟩
theorem cs_retN : PS X (.Return none pos) (lS (pm X N) cRetN) := PS.imp ps_retN fun D σ H hh => by
  obtain ⟨τ, G, C, at0, h, fin⟩ := hh
  exact fin.rt.at_a at0.h h
theorem cs_if (hc : PT X c (lT (pm X N) tc)) (ha : PSs X body (lS (pm X N) t)) (hb : PSs X orelse (lS (pm X N) u)) : PS X (.If c body orelse pos) (lS (pm X N) (cIfS tc t u)) := PS.imp (ps_if hc ha hb) fun D σ H hh => by
  obtain ⟨τ, G, C, at0, h, fin⟩ := hh
  refine ⟨τ, G, _, at0, h, fun b H1 G1 h1 g1 t1 => ?_⟩
  cases b with
  | true =>
    simp only [if_true] at h1 ⊢
    exact ⟨τ, G1, C, ⟨at0.s.mono t1, g1⟩, h1, fin.mono t1⟩
  | false =>
    simp only [Bool.false_eq_true, if_false] at h1 ⊢
    exact ⟨τ, G1, C, ⟨at0.s.mono t1, g1⟩, h1, fin.mono t1⟩
theorem cs_set {i : Nat} {x : Str} (hN : X.N.Nodup) (he : PE X e (lE (pm X N) T)) (hi : X.N[i]? = some x := by rfl) (hx : Loc X.env.scope x := by first | exact .inl rfl | exact .inr rfl) (hs : swapsWith e (some (.Name x pos')) pos.line X.env = pure false := by rfl) (hf : X.fn x = true ∨ X.env.scope.names.lookup x = some .local := by first | exact .inl rfl | exact .inr rfl) :
    PS X (.Assign [.Name x pos'] e pos) (lS (pm X N) (cSetN i T)) := PS.imp (ps_set hN hi hx he hs hf) fun D σ H hh => by
  obtain ⟨τ, G, C, at0, h, fin⟩ := hh
  exact ⟨τ, G, _, at0, h, fun v cv H1 G1 h1 rv g1 t1 => fin.nx _ _ _ _ h1 ⟨(at0.s.mono t1).set i rv, g1⟩ t1⟩
theorem cs_asg {tg : Expr} {is : List Nat} {g : CG} {wk : Bool} (he : PE X e (lE (pm X N) T)) (hg : PG X tg (lG (pm X N) wk is g)) (hs : swapsWithSole [tg] e pos.line X.env = pure false := by rfl) (hw : swappedStores [tg] e X.env = pure none := by rfl)
    (h1 : (assignEach [tg] X.env).map (·.2) = [assign tg X.env] := by rfl) : PS X (.Assign [tg] e pos) (lS (pm X N) (cAsg T g)) := PS.imp (ps_asg he hg hs hw h1) fun D σ H hh => by
  obtain ⟨τ, G, C, at0, h, fin⟩ := hh
  exact ⟨τ, G, _, at0, h, fun v cv H1 G1 h1 rv g1 t1 => ⟨cv, τ, G1, _, .inl rv, ⟨at0.s.mono t1, g1⟩, h1, fun σ' τ' H' G' h' a' t' _ => fin.nx _ _ _ _ h' a' (t1.trans t')⟩⟩
def lIp (m : Pm) (r : C2) : TIp := l2 m r
theorem cs_aug {i : Nat} {x : Str} {op : Operator} {r : C2} (hN : X.N.Nodup) (he : PE X e (lE (pm X N) T)) (ho : PIp X op (lIp (pm X N) r)) (hi : X.N[i]? = some x := by rfl) (hx : Loc X.env.scope x := by first | exact .inl rfl | exact .inr rfl) (hf : X.fn x = true ∨ X.env.scope.names.lookup x = some .local := by first | exact .inl rfl | exact .inr rfl) :
    PS X (.AugAssign (.Name x pos') op e pos) (lS (pm X N) (cAug i T r)) := PS.imp (ps_aug hN hi hx he ho hf) fun D σ H hh => by
  obtain ⟨τ, G, C, at0, ⟨cv, ec, h⟩, fin⟩ := hh
  obtain ⟨v, e1, r1⟩ := at0.s.at_ _ _ ec
  refine ⟨v, e1, τ, G, _, at0, h, fun w d H1 G1 h1 rw' g1 t1 => ⟨cv, d, G1, _, r1.mono t1, rw', g1, h1, fun z f H2 G2 h2 rz g2 t2 => fin.nx _ _ _ _ h2 ⟨(at0.s.mono (t1.trans t2)).set i rz, g2⟩ (t1.trans t2)⟩⟩
theorem cs_while (hp : PassesOwn (model X.prog X.w) X.A X.env X.xe) (hc : PT X c (lT (pm X N) tc)) (hb : PSs X body (lS (pm X N) tb)) : PS X (.While c body [] pos) (lS (pm X N) (cWhile tc tb)) := PS.imp (ps_while hp hc hb) fun D σ H hh => by
  obtain ⟨τ, G, C, at0, ⟨n, h⟩, fin⟩ := hh
  refine ⟨fun k σ' H' => ∃ τ' G', At0 (pm X N) σ' H' τ' G' ∧ TupSub X.K H H' ∧ whL tc tb C k τ' G', ⟨n, τ, G, at0, .rfl', h⟩, ?_⟩
  rintro k σ1 H1 ⟨τ1, G1, a1, t1, h1⟩
  cases k with
  | zero => exact h1.elim
  | succ k =>
    refine ⟨τ1, G1, _, a1, h1, fun b H2 G2 h2 g2 t2 => ?_⟩
    cases b with
    | false =>
      simp only [Bool.false_eq_true, if_false] at h2 ⊢
      exact fin.nx _ _ _ _ h2 ⟨a1.s.mono t2, g2⟩ (t1.trans t2)
    | true =>
      simp only [if_true] at h2 ⊢
      refine ⟨fun σ' H' => ∃ τ' G', At0 (pm X N) σ' H' τ' G' ∧ TupSub X.K H H' ∧ whL tc tb C k τ' G', fun σ' H' q => ⟨k, Nat.lt_succ_self k, q⟩, τ1, G2, _, ⟨a1.s.mono t2, g2⟩, h2, ?_⟩
      exact ⟨fun σ4 τ4 H4 G4 ⟨τ5, G5, u1, u2, h4⟩ a4 t4 => ⟨τ5, G5, a4.sub u1 u2, t1.trans (t2.trans t4), h4⟩, fin.rt.mono (t1.trans t2), fun σ4 τ4 H4 G4 ⟨τ5, G5, u1, u2, h4⟩ a4 t4 => fin.nx _ _ _ _ h4 (a4.sub u1 u2) (t1.trans (t2.trans t4)), fun σ4 τ4 H4 G4 ⟨τ5, G5, u1, u2, h4⟩ a4 t4 => ⟨τ5, G5, a4.sub u1 u2, t1.trans (t2.trans t4), h4⟩⟩
theorem fc_put {K : PySem.W.Frag} {H : Hp} {Ca : Addr} (nd : N.att.Nodup) {f : Nat} (hf : f < N.att.length) {v : V} {y : CV} (r : Rep K H v y) (na : NoAttr K Ca (N.an f)) : ∀ {vs : List (Str × V)} {fs : List (Nat × CV)}, FC N K H Ca vs fs → FC N K H Ca (putF (N.an f) v vs) (putC f y fs)
  | [], [], .nil => .cons ⟨rfl, hf, r, na⟩ .nil
  | (g, x) :: vs, (i, d) :: fs, .cons h t => by
    obtain ⟨h1, h2, h3, h4⟩ := h
    have h1 : g = N.an i := h1
    subst h1
    unfold putF putC
    by_cases z : i = f
    · subst z
      rw [if_pos rfl, if_pos rfl]
      exact .cons ⟨rfl, h2, r, h4⟩ t
    · rw [if_neg z, if_neg fun q => z (an_inj nd h2 hf q)]
      exact .cons ⟨rfl, h2, h3, h4⟩ (fc_put nd hf r na t)
theorem FC.mono {K : PySem.W.Frag} {H H' : Hp} {Ca : Addr} {vs : List (Str × V)} {fs : List (Nat × CV)} (h : FC N K H Ca vs fs) (t : TupSub K H H') : FC N K H' Ca vs fs := Paired.mono (fun a b z => ⟨z.1, z.2.1, z.2.2.1.mono t, z.2.2.2⟩) h
theorem RepO.mkIns {m : Pm} {H : Hp} {p dx : Addr} {c : Nat} {vs : List (Str × V)} {fs : List (Nat × CV)} (h : H p = some (.ins (He.ga m.K (m.N.cn c)) dx vs)) (cl : Cls m.K (He.ga m.K (m.N.cn c))) (r : FC m.N m.K H (He.ga m.K (m.N.cn c)) vs fs) : RepO m H p (.ins c fs) := ⟨dx, vs, h, cl, r⟩
theorem cs_fld {cn f : Nat} {fn : Str} (nd : N.att.Nodup) (na : NoAttr X.K (He.ga X.K (N.cn cn)) (N.an f)) (ho : PE X o (lE (pm X N) To)) (hv : PE X e (lE (pm X N) Tv)) (hf : f < N.att.length := by decide +kernel) (hn : N.an f = fn := by rfl) (hs : swapsWith e (some (.Attribute o fn pos')) pos.line X.env = pure false := by rfl) :
    PS X (.Assign [.Attribute o fn pos'] e pos) (lS (pm X N) (cFld cn f To Tv)) := PS.imp (ps_fld ho hv hs) fun D σ H hh => by
  obtain ⟨τ, G, C, at0, h, fin⟩ := hh
  subst hn
  refine ⟨τ, G, _, at0, h, fun v cv H1 G1 h1 rv g1 t1 => ⟨τ, G1, _, ⟨at0.s.mono t1, g1⟩, h1, fun x cx H2 G2 h2 rx g2 t2 => ?_⟩⟩
  obtain ⟨p, fs, ex, eG, hl, h2⟩ := h2
  subst ex
  obtain ⟨dx, vs, hH, cl, fc⟩ := g2 _ _ eG
  have el : vs.length = fs.length := Paired.length fc
  have nt : NoTup (H2 p) := by rw [hH]; trivial
  refine ⟨p, _, dx, vs, rx.at_a, hH, cl, na, by omega, ?_⟩
  refine fin.nx _ _ _ _ h2 ⟨at0.s.mono (t1.trans (t2.trans (.put nt))), g2.write nt ?_⟩ (t1.trans (t2.trans (.put nt)))
  exact RepO.mkIns (m := pm X N) upd_same cl (FC.mono (fc_put nd hf (rv.mono t2) na fc) (.put nt))
end
def cstart (n : Nat) (cs : List CV) : CSt := cs.map some ++ List.replicate (n - cs.length) none
theorem relS_start {K : PySem.W.Frag} {H : Hp} {NL : List Str} {vs : List V} {cs : List CV} (r : Reps K H vs cs) : RelS K H (L2.start NL vs) (cstart NL.length cs) := by
  unfold L2.start cstart
  refine ⟨by simp [r.length], fun i c e => ?_⟩
  by_cases hi : i < cs.length
  · rw [List.getElem?_append_left (by simpa using hi), List.getElem?_map] at e
    cases q : cs[i]? with
    | none => rw [q] at e; cases e
    | some d =>
      rw [q] at e
      cases e
      obtain ⟨v, h1, h2⟩ := r.get q
      have hv : i < vs.length := by rw [r.length]; exact hi
      refine ⟨v, ?_, h2⟩
      rw [List.getElem?_append_left (by simpa using hv), List.getElem?_map, h1]
      rfl
  · rw [List.getElem?_append_right (by simpa using hi)] at e
    rw [List.getElem?_replicate] at e
    split at e <;> cases e
theorem passes_cx0 {P : Program} {w : World} {K : PySem.W.Frag} {mg : Str → Option Value} {base : Heap} {NL : List Str} {qual : Str} {scope : Scope} {f : Addr} {cdv : Value} {A : Around} {outer : List Env} {s : Shared} {H : Hp} {E : XK} :
    PassesOwn (model P w) (cxOf CX0 P w K mg base NL qual scope f cdv A outer s H E).A (cxOf CX0 P w K mg base NL qual scope f cdv A outer s H E).env (cxOf CX0 P w K mg base NL qual scope f cdv A outer s H E).xe :=
  passes_of (X := cxOf CX0 P w K mg base NL qual scope f cdv A outer s H E) rfl
section
variable {Γ : Gam} {N : Nm} {x qual : Str} {params : Arguments} {body : List Stmt} {scope : Scope} {dvs : List V} {f : Addr} {fd : FuncData}
/-- a def keeps its promise -/
theorem fn_ok3 {NL ps : List Str} {k ar : Nat} {sp : CSp} {T : CTS} (F : FunD Γ.K x qual params body scope dvs [] f fd) (S : FnScope NL ps scope) (len : ∀ cs G R, sp cs G R → cs.length = ps.length)
    (hb : ∀ (cdv : Value) (A : Around) (outer : List Env) (s : Shared) (H : Hp) (E : XK), Room k (A.deeper (envOfC qual scope s.heap.objs.size f cdv)) →
      PSs (cxOf CX0 Γ.P Γ.w Γ.K Γ.mg Γ.base NL qual scope f cdv A outer s H E) body (lS ⟨Γ.P, Γ.w, Γ.K, N⟩ T))
    (hp : ∀ cs G R, sp cs G R → T { nx := fun _ G' => dnV R (.a .non) G', rt := dnV R } (cstart NL.length cs) G) :
    FnOk Γ.P Γ.w Γ.K Γ.mg Γ.base CX0 (k + 1) f fd ps (lSp ⟨Γ.P, Γ.w, Γ.K, N⟩ sp) := by
  refine F.ok S (fun vs H Q E hh => ?_) fun cdv A outer s H vs Q E hr hh => ?_
  · obtain ⟨cs, G, R, r, g, h, fin⟩ := hh
    rw [r.length]
    exact len _ _ _ h
  · obtain ⟨cs, G, R, r, g, h, fin⟩ := hh
    refine ⟨_, hb cdv A outer s H E hr, cstart NL.length cs, G, _, ⟨relS_start r, g⟩, hp _ _ _ h, ?_⟩
    exact ⟨fun σ τ H' G' ⟨G2, u, h'⟩ a' t' => (fin.mono t').at_a (a'.h.sub u) h', fun v c H' G' ⟨G2, u, h'⟩ rv g' t' => fin v c H' G2 h' rv (g'.sub u) t', fun σ τ H' G' h' a' t' => h'.elim, fun σ τ H' G' h' a' t' => h'.elim⟩
/-- every parameter given -/
theorem FnG.all {ps : List Str} {k : Nat} {sp : CSp} (F : FnOk Γ.P Γ.w Γ.K Γ.mg Γ.base CX0 k f fd ps (lSp ⟨Γ.P, Γ.w, Γ.K, N⟩ sp)) (h : ∀ us : List Value, us.length = ps.length → bindArgs fd ⟨us, []⟩ = pure (ps.zip us)) : FnG Γ N k f sp [] ps.length :=
  ⟨fd, ps, [], [], F, rfl, fun _ => .nil, .nil, .all h⟩
end
section
variable {prog : Program} {w : World} {A : Around} {E : Value → Shared → Prop} {s : Shared}
theorem subDict1 {k v : Sem Value} {Q : Addr → Shared → Prop}
    (h : wpAny (model prog w) A k (fun kv s1 => wpAny (model prog w) A v (fun vv s2 => wpAny (model prog w) A (dictSet s.heap.objs.size kv vv) (fun _ s3 => Q s.heap.objs.size s3) E s2) E s1) E { s with heap := s.heap.push { cls := .type "dict", data := .dict #[] } }) :
    wpAny (model prog w) A (subDict [(k, v)]) Q E s := by
  unfold subDict
  refine wpAny_bind (wpAny_alloc ?_)
  refine wpAny_bind (wpAny_holding ?_)
  rw [if_pos (by simp)]
  refine wpAny_bind (evalPairs_cons (wpAny_mono h (fun kv s1 h1 => wpAny_mono h1 (fun vv s2 h2 => evalPairs_nil ?_) fun _ _ e => e) fun _ _ e => e))
  refine wpAny_holding ?_
  refine wpAny_bind ?_
  rw [List.forIn_cons]
  refine wpAny_bind (wpAny_bind (wpAny_mono h2 (fun _ s3 h3 => wpAny_pure ?_) fun _ _ e => e))
  dsimp only
  rw [List.forIn_nil]
  exact wpAny_pure (wpAny_pure (wpAny_pure h3))
end
section
variable {X : Cx} {N : Nm} {kx vx : Expr} {Tk Tv : CTE} {pos : Pos}
/-- {k: v} -/
def cDic1 (t : Bool) (Tk Tv : CTE) : CTE := fun τ G R => ∀ p, G p = none → Tk τ (cup G p (.dic t [])) fun x G1 => Tv τ G1 fun y G2 => ∃ k, keyOf x = some k ∧ okK t k = true ∧ G2 p = some (.dic t []) ∧ R (.a (.ref p)) (cup G2 p (.dic t [(k, y)]))
theorem ce_dic1 {t : Bool} (hu : X.A.units + 64 < cLine) (hk : PE X kx (lE (pm X N) Tk)) (hv : PE X vx (lE (pm X N) Tv)) (hsh : (evalEachOpt [some kx] X.env).zip ((evalEach [vx] X.env).map fun v => do let x ← v; standAt pos; pure x) = [(some (eval kx X.env), do let x ← eval vx X.env; standAt pos; pure x)] := by rfl) :
    PE X (.Dict [some kx] [vx] pos) (lE (pm X N) (cDic1 t Tk Tv)) := by
  refine ⟨fun pins s σ H Q I hh => ?_⟩
  obtain ⟨τ, G, R, at0, h, fin⟩ := hh
  have hf : H s.heap.objs.size = none := I.hok.fresh (Nat.le_refl _)
  have h := h _ (at0.h.fresh hf)
  rw [arm_eval_Dict, hsh]
  rw [show ([(some (eval kx X.env), do let x ← eval vx X.env; standAt pos; pure x)] : List (Option (Sem Value) × Sem Value)) = [((eval kx X.env, do let x ← eval vx X.env; standAt pos; pure x) : Sem Value × Sem Value)].map (fun p => (some p.1, p.2)) from rfl, dictDisplay_pairs _ (by simp) (by simp)]
  refine wpAny_bind (wpAny_standAt (wpAny_bind (subDict1 ?_)))
  have run : ∀ (o : HO), Mut (some o) → ObjOk X.prog X.w (upd H s.heap.objs.size o) (s.heap.push { cls := .type "dict", data := .dict #[] }) s.heap.objs.size o → RepO (pm X N) (upd H s.heap.objs.size o) s.heap.objs.size (.dic t []) →
      wpAny (model X.prog X.w) X.A (eval kx X.env) (fun kv s1 => wpAny (model X.prog X.w) X.A (do let x ← eval vx X.env; standAt pos; pure x) (fun vv s2 => wpAny (model X.prog X.w) X.A (dictSet s.heap.objs.size kv vv) (fun _ s3 => wpAny (model X.prog X.w) X.A (pure (Value.ref s.heap.objs.size)) (EP X pins σ Q) X.xe s3) X.xe s2) X.xe s1) X.xe { s with heap := s.heap.push { cls := .type "dict", data := .dict #[] } } := fun o _ oo ro => by
    have I1 : Inv X pins σ (upd H s.heap.objs.size o) { s with heap := s.heap.push { cls := .type "dict", data := .dict #[] } } := I.laid (t' := s.toks) (fun _ _ q => Heap.get?_push_of_some _ q) (Nat.le_refl _) oo
    have a1 : At0 (pm X N) σ (upd H s.heap.objs.size o) τ (cup G s.heap.objs.size (.dic t [])) := ⟨at0.s.mono (.new hf), at0.h.newO hf ro⟩
    refine thn (PE.go hk I1 a1 h) fun ku s1 ⟨kvv, kc, H1, G1, I2, rk, rpk, g1, t1, h1⟩ => ?_
    refine wpAny_bind (thn (PE.go hv I2 ⟨a1.s.mono t1, g1⟩ h1) fun vu s2 ⟨vvv, vc, H2, G2, I3, rv, rpv, g2, t2, k, hk1, hk2, hG, hR⟩ => wpAny_bind (wpAny_standAt (wpAny_pure ?_)))
    have rpk2 := rpk.mono t2
    have tt : TupSub X.K H H2 := TupSub.trans (.new hf) (t1.trans t2)
    cases t with
    | false =>
      obtain ⟨ks, hH, kc⟩ := g2 _ _ hG
      cases kc
      obtain ⟨j, rfl, rfl⟩ := leaf_key hk1 hk2 rpk2
      have nt : NoTup (H2 s.heap.objs.size) := by rw [hH]; trivial
      refine d_dictSet I3 hH (by rw [sizeLine_eq]; decide) rk rv fun s3 I4 => wpAny_pure ⟨.ref s.heap.objs.size, _, I4, rfl, ?_⟩
      exact fin _ _ _ _ hR (.a _) (g2.write nt (RepO.mkK upd_same (.cons ⟨rfl, rpv.mono (.put nt)⟩ .nil))) (tt.trans (.put nt))
    | true =>
      obtain ⟨xs, hH, tc⟩ := g2 _ _ hG
      cases tc
      obtain ⟨b, rfl, rfl, hi, rb, hd⟩ := tup_key I3 hk1 hk2 rpk2 rk
      obtain ⟨h1, h2, h3, ys, yc, dd⟩ := dit_of I3 hH .nil
      cases yc
      have nt : NoTup (H2 s.heap.objs.size) := by rw [hH]; trivial
      refine wpAny_dictSet_heap (hsz := by simp) (show X.A.units + 8 < cLine by omega) hi dd fun h' dd' hs => ?_
      have he : ∃ q, h'.get? s.heap.objs.size = some q := let ⟨q, _, _, hq, _⟩ := dd'; ⟨q, hq⟩
      have I4 := d_write (ob := DitE X.prog X.w s.heap.objs.size (xput [] k b vvv)) (t' := s2.toks + (nk X).draws k) I3 (by rw [hH]; trivial) hs he (dit_ok h1 (by rw [sizeLine_eq]; show 1 ≤ 16777216; decide) (xput_nodup .nil) (YC.put .nil k b rv) dd')
      refine wpAny_pure ⟨.ref s.heap.objs.size, _, I4, rfl, ?_⟩
      exact fin _ _ _ _ hR (.a _) (g2.write nt (RepO.mkT (m := pm X N) upd_same (.cons ⟨rfl, rb.mono (.put nt), hd, rpv.mono (.put nt)⟩ .nil))) (tt.trans (.put nt))
  cases t with
  | false => exact run (.dK []) trivial (dk_empty s.heap I.big) (RepO.mkK upd_same .nil)
  | true => exact run (DitE X.prog X.w s.heap.objs.size []) trivial (dit_empty s.heap I.big) (RepO.mkT (m := pm X N) upd_same .nil)
end
def cAddI : C2
  | .a (.int i), .a (.int j), G, R => R (.a (.int (i + j))) G
  | _, _, _, _ => False
def cSubI : C2
  | .a (.int i), .a (.int j), G, R => R (.a (.int (i - j))) G
  | _, _, _, _ => False
section
variable {X : Cx} {N : Nm}
theorem cip_add : PIp X .Add (lIp (pm X N) cAddI) := by
  intro pins s σ H x y v u Q I rx ry hh
  obtain ⟨cx, cy, G, R, hx, hy, g, h, fin⟩ := hh
  unfold cAddI at h
  split at h
  · cases hx; cases hy
    exact ip_add pins s σ H _ _ v u Q I rx ry ⟨_, _, rfl, rfl, fin.at_a g h⟩
  · exact h.elim
theorem cip_sub : PIp X .Sub (lIp (pm X N) cSubI) := by
  intro pins s σ H x y v u Q I rx ry hh
  obtain ⟨cx, cy, G, R, hx, hy, g, h, fin⟩ := hh
  unfold cSubI at h
  split at h
  · cases hx; cases hy
    exact ip_sub pins s σ H _ _ v u Q I rx ry ⟨_, _, rfl, rfl, fin.at_a g h⟩
  · exact h.elim
end
def nmC0 : List Str := ["RoundAlike", "AllStarts", "AllValues", "Band", "Blind", "BookPair", "Book", "CanVerdict", "Cheapest", "ClashAlike"]
def nmC1 : List Str := ["Written", "Conductor", "Falseness", "Fit", "Heads", "Hearing", "InTime", "KeepsOut", "Node", "Charts"]
def nmC2 : List Str := ["LinePair", "Lines", "Mean", "Filling", "TrueWays", "Mends", "Method", "Outlook", "Practice", "Entering"]
def nmC3 : List Str := ["Trial", "Prices", "Program", "Reach", "RoundVerdict", "Going", "Seeing", "Ringing", "Sounding", "Soundness"]
def nmC4 : List Str := ["Touch", "Tower", "TrueVerdict", "Truth", "Parts", "Watch"]
def nmC : List Str := nmC0 ++ nmC1 ++ nmC2 ++ nmC3 ++ nmC4
def nmA0 : List Str := ["calling", "comer", "table", "holds", "rows_told", "conductor", "breach", "rows", "program", "spans"]
def nmA1 : List Str := ["ends", "least_values", "method", "hears", "most", "rung_for", "band", "row", "hopes", "bearer"]
def nmA2 : List Str := ["told", "entries", "by_state", "beginning", "prices", "many", "bounds", "told_rounds", "clasher", "parts"]
def nmA3 : List Str := ["spots_of_points", "bell", "pairs", "steps", "ascending", "wrong", "stage", "heard", "allowed", "nexts"]
def nmA4 : List Str := ["ways", "starts", "number", "first", "last", "sure", "callings", "numbers", "farthest", "swaps"]
def nmA5 : List Str := ["fewest", "worths", "trap", "spot", "statement", "branches", "names", "maps", "letter_maps", "branch"]
def nmA6 : List Str := ["row_of_pairs", "texts", "now", "heads_told", "mean", "potentials", "cycle", "seen", "cells", "rung"]
def nmA7 : List Str := ["known", "round_ones", "words", "plain", "calls", "opening", "leads", "row_of_letters", "moves", "bodies"]
def nmA8 : List Str := ["letters", "size", "book", "standings", "stuck", "meant_row", "present_row", "called", "meant", "present"]
def nmA9 : List Str := ["fault", "before", "practice", "fee_of", "rules", "fees", "row_of_names", "script", "flat", "variables"]
def nmA10 : List Str := ["menu", "given", "slips", "row_of_heads", "row_of_meant", "heads", "end", "faults", "unslipped", "shelf"]
def nmA11 : List Str := ["there", "pair", "cap", "start", "is_round", "is_true", "spots", "names_kept", "record", "deeds"]
def nmA12 : List Str := ["two_spots", "found", "part", "order", "reach", "places", "listed", "delay", "way", "loop"]
def nmA : List Str := nmA0 ++ nmA1 ++ nmA2 ++ nmA3 ++ nmA4 ++ nmA5 ++ nmA6 ++ nmA7 ++ nmA8 ++ nmA9 ++ nmA10 ++ nmA11 ++ nmA12
def NM : Nm := ⟨nmC, nmA⟩
theorem nmA_nd : NM.att.Nodup := by decide +kernel
abbrev c_RoundAlike : Nat := 0
abbrev c_AllStarts : Nat := 1
abbrev c_AllValues : Nat := 2
abbrev c_Band : Nat := 3
abbrev c_Blind : Nat := 4
abbrev c_BookPair : Nat := 5
abbrev c_Book : Nat := 6
abbrev c_CanVerdict : Nat := 7
abbrev c_Cheapest : Nat := 8
abbrev c_ClashAlike : Nat := 9
abbrev c_Written : Nat := 10
abbrev c_Conductor : Nat := 11
abbrev c_Falseness : Nat := 12
abbrev c_Fit : Nat := 13
abbrev c_Heads : Nat := 14
abbrev c_Hearing : Nat := 15
abbrev c_InTime : Nat := 16
abbrev c_KeepsOut : Nat := 17
abbrev c_Node : Nat := 18
abbrev c_Charts : Nat := 19
abbrev c_LinePair : Nat := 20
abbrev c_Lines : Nat := 21
abbrev c_Mean : Nat := 22
abbrev c_Filling : Nat := 23
abbrev c_TrueWays : Nat := 24
abbrev c_Mends : Nat := 25
abbrev c_Method : Nat := 26
abbrev c_Outlook : Nat := 27
abbrev c_Practice : Nat := 28
abbrev c_Entering : Nat := 29
abbrev c_Trial : Nat := 30
abbrev c_Prices : Nat := 31
abbrev c_Program : Nat := 32
abbrev c_Reach : Nat := 33
abbrev c_RoundVerdict : Nat := 34
abbrev c_Going : Nat := 35
abbrev c_Seeing : Nat := 36
abbrev c_Ringing : Nat := 37
abbrev c_Sounding : Nat := 38
abbrev c_Soundness : Nat := 39
abbrev c_Touch : Nat := 40
abbrev c_Tower : Nat := 41
abbrev c_TrueVerdict : Nat := 42
abbrev c_Truth : Nat := 43
abbrev c_Parts : Nat := 44
abbrev c_Watch : Nat := 45
abbrev a_calling : Nat := 0
abbrev a_comer : Nat := 1
abbrev a_table : Nat := 2
abbrev a_holds : Nat := 3
abbrev a_rows_told : Nat := 4
abbrev a_conductor : Nat := 5
abbrev a_breach : Nat := 6
abbrev a_rows : Nat := 7
abbrev a_program : Nat := 8
abbrev a_spans : Nat := 9
abbrev a_ends : Nat := 10
abbrev a_least_values : Nat := 11
abbrev a_method : Nat := 12
abbrev a_hears : Nat := 13
abbrev a_most : Nat := 14
abbrev a_rung_for : Nat := 15
abbrev a_band : Nat := 16
abbrev a_row : Nat := 17
abbrev a_hopes : Nat := 18
abbrev a_bearer : Nat := 19
abbrev a_told : Nat := 20
abbrev a_entries : Nat := 21
abbrev a_by_state : Nat := 22
abbrev a_beginning : Nat := 23
abbrev a_prices : Nat := 24
abbrev a_many : Nat := 25
abbrev a_bounds : Nat := 26
abbrev a_told_rounds : Nat := 27
abbrev a_clasher : Nat := 28
abbrev a_parts : Nat := 29
abbrev a_spots_of_points : Nat := 30
abbrev a_bell : Nat := 31
abbrev a_pairs : Nat := 32
abbrev a_steps : Nat := 33
abbrev a_ascending : Nat := 34
abbrev a_wrong : Nat := 35
abbrev a_stage : Nat := 36
abbrev a_heard : Nat := 37
abbrev a_allowed : Nat := 38
abbrev a_nexts : Nat := 39
abbrev a_ways : Nat := 40
abbrev a_starts : Nat := 41
abbrev a_number : Nat := 42
abbrev a_first : Nat := 43
abbrev a_last : Nat := 44
abbrev a_sure : Nat := 45
abbrev a_callings : Nat := 46
abbrev a_numbers : Nat := 47
abbrev a_farthest : Nat := 48
abbrev a_swaps : Nat := 49
abbrev a_fewest : Nat := 50
abbrev a_worths : Nat := 51
abbrev a_trap : Nat := 52
abbrev a_spot : Nat := 53
abbrev a_statement : Nat := 54
abbrev a_branches : Nat := 55
abbrev a_names : Nat := 56
abbrev a_maps : Nat := 57
abbrev a_letter_maps : Nat := 58
abbrev a_branch : Nat := 59
abbrev a_row_of_pairs : Nat := 60
abbrev a_texts : Nat := 61
abbrev a_now : Nat := 62
abbrev a_heads_told : Nat := 63
abbrev a_mean : Nat := 64
abbrev a_potentials : Nat := 65
abbrev a_cycle : Nat := 66
abbrev a_seen : Nat := 67
abbrev a_cells : Nat := 68
abbrev a_rung : Nat := 69
abbrev a_known : Nat := 70
abbrev a_round_ones : Nat := 71
abbrev a_words : Nat := 72
abbrev a_plain : Nat := 73
abbrev a_calls : Nat := 74
abbrev a_opening : Nat := 75
abbrev a_leads : Nat := 76
abbrev a_row_of_letters : Nat := 77
abbrev a_moves : Nat := 78
abbrev a_bodies : Nat := 79
abbrev a_letters : Nat := 80
abbrev a_size : Nat := 81
abbrev a_book : Nat := 82
abbrev a_standings : Nat := 83
abbrev a_stuck : Nat := 84
abbrev a_meant_row : Nat := 85
abbrev a_present_row : Nat := 86
abbrev a_called : Nat := 87
abbrev a_meant : Nat := 88
abbrev a_present : Nat := 89
abbrev a_fault : Nat := 90
abbrev a_before : Nat := 91
abbrev a_practice : Nat := 92
abbrev a_fee_of : Nat := 93
abbrev a_rules : Nat := 94
abbrev a_fees : Nat := 95
abbrev a_row_of_names : Nat := 96
abbrev a_script : Nat := 97
abbrev a_flat : Nat := 98
abbrev a_variables : Nat := 99
abbrev a_menu : Nat := 100
abbrev a_given : Nat := 101
abbrev a_slips : Nat := 102
abbrev a_row_of_heads : Nat := 103
abbrev a_row_of_meant : Nat := 104
abbrev a_heads : Nat := 105
abbrev a_end : Nat := 106
abbrev a_faults : Nat := 107
abbrev a_unslipped : Nat := 108
abbrev a_shelf : Nat := 109
abbrev a_there : Nat := 110
abbrev a_pair : Nat := 111
abbrev a_cap : Nat := 112
abbrev a_start : Nat := 113
abbrev a_is_round : Nat := 114
abbrev a_is_true : Nat := 115
abbrev a_spots : Nat := 116
abbrev a_names_kept : Nat := 117
abbrev a_record : Nat := 118
abbrev a_deeds : Nat := 119
abbrev a_two_spots : Nat := 120
abbrev a_found : Nat := 121
abbrev a_part : Nat := 122
abbrev a_order : Nat := 123
abbrev a_reach : Nat := 124
abbrev a_places : Nat := 125
abbrev a_listed : Nat := 126
abbrev a_delay : Nat := 127
abbrev a_way : Nat := 128
abbrev a_loop : Nat := 129
theorem cv_of {Γ : Gam} {C f : Str} {i : Int} (hg : Γ.mg C = some (.ref (He.ga Γ.K C))) (h : (Fa.cval C f i).ok Γ.K = true) : CvN Γ C f (.int i) := by
  unfold Fa.ok at h
  obtain ⟨h1, h⟩ := He.ba h
  obtain ⟨h2, h3⟩ := He.ba h
  split at h3
  · rename_i j t e
    have ej : j = i := of_decide_eq_true h3
    subst ej
    exact ⟨_, .type "type", .int j t, hg, ⟨h1, of_decide_eq_true h2⟩, e, ⟨t, rfl⟩⟩
  · cases h3
def kEq (a b : NameKind) : Bool := decide (a = b)
def lookB (sc : Scope) (x : Str) (k : NameKind) : Bool := decide (sc.names.lookup x = some k)
theorem lookB_ok {sc : Scope} {x : Str} {k : NameKind} (h : lookB sc x k = true) : sc.names.lookup x = some k := of_decide_eq_true h
def nodupB : List Str → Bool
  | [] => true
  | x :: r => !(r.contains x) && nodupB r
theorem nodupB_ok : ∀ {l : List Str}, nodupB l = true → l.Nodup
  | [], _ => .nil
  | x :: r, h => by
    unfold nodupB at h
    obtain ⟨h1, h2⟩ := He.ba h
    refine List.nodup_cons.mpr ⟨fun m => ?_, nodupB_ok h2⟩
    rw [List.elem_eq_true_of_mem (a := x) m |> (fun e => (show r.contains x = true from e))] at h1
    cases h1
def fsB (N ps : List Str) (sc : Scope) : Bool :=
  (match sc.kind with
    | .function => true
    | _ => false) && (!sc.isCoroutine && (!sc.isGenerator && (nodupB N && (decide (N.take ps.length = ps) && ((ps.all fun x => lookB sc x .local || lookB sc x .cell) && sc.names.all fun y => match y.2 with
      | .free => false
      | _ => true)))))
theorem fs_ok {N ps : List Str} {sc : Scope} (h : fsB N ps sc = true) : FnScope N ps sc := by
  unfold fsB at h
  obtain ⟨h1, h⟩ := He.ba h
  obtain ⟨h2, h⟩ := He.ba h
  obtain ⟨h3, h⟩ := He.ba h
  obtain ⟨h4, h⟩ := He.ba h
  obtain ⟨h5, h⟩ := He.ba h
  obtain ⟨h6, h7⟩ := He.ba h
  refine ⟨?_, by simpa using h2, by simpa using h3, nodupB_ok h4, of_decide_eq_true h5, fun x hx => ?_, fun y hy e => ?_⟩
  · split at h1
    · assumption
    · cases h1
  · have := List.all_eq_true.mp h6 x hx
    rcases Bool.or_eq_true_iff.mp this with q | q
    · exact .inl (lookB_ok q)
    · exact .inr (lookB_ok q)
  · have := List.all_eq_true.mp h7 y hy
    rw [e] at this
    cases this
def blkB (N : List Str) (sc scope : Scope) (own : List (Str × Nat)) : Bool :=
  (match scope.kind with
    | .function => true
    | _ => false) && ((scope.names.all fun y => lookB scope y.1 y.2) && ((own.all fun p => decide (N[p.2]? = some p.1)) && ((scope.names.all fun y => match y.2 with
      | .free => lookB sc y.1 .cell || lookB sc y.1 .free
      | .local => (own.map (·.1)).contains y.1 || !(N.contains y.1)
      | .cell => (own.map (·.1)).contains y.1 || !(N.contains y.1)
      | _ => true))))
theorem blk_ok {N : List Str} {sc scope : Scope} {own : List (Str × Nat)} (h : blkB N sc scope own = true) : BlkOk N sc scope own := by
  unfold blkB at h
  obtain ⟨h1, h⟩ := He.ba h
  obtain ⟨h2, h⟩ := He.ba h
  obtain ⟨h3, h4⟩ := He.ba h
  refine ⟨?_, fun y hy => lookB_ok (List.all_eq_true.mp h2 y hy), fun p hp => of_decide_eq_true (List.all_eq_true.mp h3 p hp), fun y hy e => ?_, fun y hy e => ?_⟩
  · split at h1
    · assumption
    · cases h1
  · have := List.all_eq_true.mp h4 y hy
    rw [e] at this
    rcases Bool.or_eq_true_iff.mp this with q | q
    · exact .inl (lookB_ok q)
    · exact .inr (lookB_ok q)
  · have := List.all_eq_true.mp h4 y hy
    have q : ((own.map (·.1)).contains y.1 || !(N.contains y.1)) = true := by
      rcases e with e | e
      · rw [e] at this; exact this
      · rw [e] at this; exact this
    rcases Bool.or_eq_true_iff.mp q with q | q
    · exact .inl (List.mem_of_elem_eq_true q)
    · refine .inr fun m => ?_
      rw [show N.contains y.1 = true from List.elem_eq_true_of_mem m] at q
      cases q
theorem dfl_fng {Γ : Gam} {N : Nm} {k ar j : Nat} {f : Addr} {fd : FuncData} {ps : List Str} {sp : CSp} {dvs : List V} {ds : List CV} (F : FnOk Γ.P Γ.w Γ.K Γ.mg Γ.base CX0 k f fd ps (lSp ⟨Γ.P, Γ.w, Γ.K, N⟩ sp)) (har : ps.length = ar) (hd : ∀ H, Reps Γ.K H (dvs.drop j) ds)
    (hb : ∃ us, Vals (dvs.drop j) us ∧ Binds Γ.K fd ps us) : FnG Γ N k f sp ds ar := by
  obtain ⟨us, h1, h2⟩ := hb
  exact ⟨fd, ps, dvs.drop j, us, F, har, hd, h1, h2⟩
theorem TabOk.nil {X : Cx} {N : Nm} {m : Str} {ar : Nat} : TabOk X N m ar [] := fun c sp h => by cases h
theorem TabOk.cons {X : Cx} {N : Nm} {m : Str} {ar kk k c : Nat} {t : Tab} {sp : CSp} (h : MeN (gam X) N c m k sp [] ar) (hr : Room kk X.A) (r : TabOk X N m ar t) (hk : k + 1 ≤ kk := by first | decide | omega) : TabOk X N m ar ((c, sp) :: t) := fun d q e => by
  rw [List.lookup_cons] at e
  split at e
  · rename_i z
    cases e
    obtain ⟨f, me, F⟩ := h
    rw [beq_iff_eq.mp z]
    exact ⟨f, me, F.c hr hk⟩
  · exact r d q e
def kMeth (tab : MTab) (As : CTA) (τ : CSt) (x : CV) (G1 : CH) (R : CVK) : Prop := ∃ p c fs sd, x = .a (.ref p) ∧ G1 p = some (.ins c fs) ∧ tab.lookup c = some sd ∧ As τ G1 fun cs G2 => sd.1 (x :: (cs ++ sd.2)) G2 R
theorem kMeth_of {tab : MTab} {As : CTA} {τ : CSt} {p : Addr} {c : Nat} {fs : List (Nat × CV)} {sd : CSp × List CV} {G : CH} {R : CVK} (h : G p = some (.ins c fs)) (l : tab.lookup c = some sd) (hR : As τ G fun cs G2 => sd.1 (.a (.ref p) :: (cs ++ sd.2)) G2 R) : kMeth tab As τ (.a (.ref p)) G R := ⟨p, c, fs, sd, rfl, h, l, hR⟩
section
variable {τ : CSt} {G : CH} {R : CVK} {D : CEnds} {T U W : CTE} {t u : CTS} {c : CTT} {As : CTA}
@[simp] theorem cSeq_e : cSeq t u D τ G = t ⟨u D, D.rt, D.bk, D.ct⟩ τ G := propext Iff.rfl
@[simp] theorem cNext_e : cNext D τ G = D.nx τ G := propext Iff.rfl
@[simp] theorem cBreak_e : cBreak D τ G = D.bk τ G := propext Iff.rfl
@[simp] theorem cCont_e : cCont D τ G = D.ct τ G := propext Iff.rfl
@[simp] theorem cDrop_e : cDrop T D τ G = T τ G fun _ G1 => D.nx τ G1 := propext Iff.rfl
@[simp] theorem cRet_e : cRet T D τ G = T τ G D.rt := propext Iff.rfl
@[simp] theorem cRetN_e : cRetN D τ G = D.rt (.a .non) G := propext Iff.rfl
@[simp] theorem cIfS_e : cIfS c t u D τ G = c τ G fun b G1 => if b = true then t D τ G1 else u D τ G1 := propext Iff.rfl
@[simp] theorem cSetN_e {i : Nat} : cSetN i T D τ G = T τ G fun c G1 => D.nx (τ.set i (some c)) G1 := propext Iff.rfl
@[simp] theorem cAsg_e {g : CG} : cAsg T g D τ G = T τ G fun c G1 => g c τ G1 D.nx := propext Iff.rfl
@[simp] theorem cAug_e {i : Nat} {r : C2} : cAug i T r D τ G = ∃ c, τ[i]? = some (some c) ∧ T τ G fun d G1 => r c d G1 fun e G2 => D.nx (τ.set i (some e)) G2 := propext Iff.rfl
@[simp] theorem cFor_e {wi : CTI} {g : CG} : cFor wi g t D τ G = wi τ G fun S G1 => forL g t D S.st S.items τ G1 := propext Iff.rfl
@[simp] theorem cFld_e {k f : Nat} : cFld k f T U D τ G = U τ G fun y G1 => T τ G1 fun x G2 => ∃ p fs, x = .a (.ref p) ∧ G2 p = some (.ins k fs) ∧ fs.length < 1000 ∧ D.nx τ (cup G2 p (.ins k (putC f y fs))) := propext Iff.rfl
@[simp] theorem cVar_e {i : Nat} : cVar i τ G R = ∃ c, τ[i]? = some (some c) ∧ R c G := propext Iff.rfl
@[simp] theorem cC_e {v : V} : cC v τ G R = R (.a v) G := propext Iff.rfl
@[simp] theorem cOp_e {r : C2} : cOp r T U τ G R = T τ G fun x G1 => U τ G1 fun y G2 => r x y G2 R := propext Iff.rfl
@[simp] theorem cUn_e {r : CV → CH → CVK → Prop} : cUn r T τ G R = T τ G fun x G1 => r x G1 R := propext Iff.rfl
@[simp] theorem cTest_e {R : Bool → CH → Prop} : cTest T τ G R = T τ G fun c G' => ∃ k, c = .a (.bl k) ∧ R k G' := propext Iff.rfl
@[simp] theorem cTruth_e {R : Bool → CH → Prop} : cTruth T τ G R = T τ G fun c G' => ∃ k, cTru c G' k ∧ R k G' := propext Iff.rfl
@[simp] theorem cChain_e {r r' : C2} : cChain r r' T U W τ G R = T τ G fun x G1 => U τ G1 fun y G2 => r x y G2 fun z G3 => ∃ k, z = .a (.bl k) ∧ (if k = true then W τ G3 fun w G4 => r' y w G4 R else R (.a (.bl false)) G3) := propext Iff.rfl
@[simp] theorem cAnd_e {a b : CTT} {R : Bool → CH → Prop} : cAnd a b τ G R = a τ G fun c G1 => if c = true then b τ G1 R else R false G1 := propext Iff.rfl
@[simp] theorem cOr_e {a b : CTT} {R : Bool → CH → Prop} : cOr a b τ G R = a τ G fun c G1 => if c = true then R true G1 else b τ G1 R := propext Iff.rfl
@[simp] theorem cNot_e {a : CTT} {R : Bool → CH → Prop} : cNot a τ G R = a τ G fun c G1 => R (!c) G1 := propext Iff.rfl
@[simp] theorem cYes_e {R : Bool → CH → Prop} : cYes τ G R = R true G := propext Iff.rfl
@[simp] theorem cAndV_e : cAndV T U τ G R = T τ G fun x G1 => ∃ c, x = .a (.bl c) ∧ if c = true then U τ G1 R else R (.a (.bl false)) G1 := propext Iff.rfl
@[simp] theorem cOrV_e : cOrV T U τ G R = T τ G fun x G1 => ∃ c, x = .a (.bl c) ∧ if c = true then R (.a (.bl true)) G1 else U τ G1 R := propext Iff.rfl
@[simp] theorem cNotV_e : cNotV T τ G R = T τ G fun x G1 => ∃ c, x = .a (.bl c) ∧ R (.a (.bl (!c))) G1 := propext Iff.rfl
@[simp] theorem cIf_e : cIf c T U τ G R = c τ G fun k G1 => if k = true then T τ G1 R else U τ G1 R := propext Iff.rfl
@[simp] theorem cNil_e {R : List CV → CH → Prop} : cNil τ G R = R [] G := propext Iff.rfl
@[simp] theorem cCons_e {R : List CV → CH → Prop} : cCons T As τ G R = T τ G fun c G1 => As τ G1 fun cs G2 => R (c :: cs) G2 := propext Iff.rfl
@[simp] theorem cStar_e {R : List CV → CH → Prop} : cStar T As τ G R = T τ G fun c G1 => ∃ xs, (c = .tup xs ∨ ∃ p, c = .a (.ref p) ∧ G1.seq p = some xs) ∧ As τ G1 fun cs G2 => R (xs ++ cs) G2 := propext Iff.rfl
@[simp] theorem cTup_e : cTup As τ G R = As τ G fun cs G1 => cs.length ≤ sizeLine ∧ R (.tup cs) G1 := propext Iff.rfl
@[simp] theorem cLst_e : cLst As τ G R = As τ G fun cs G1 => cs.length ≤ sizeLine ∧ ∀ p, G1 p = none → R (.a (.ref p)) (cup G1 p (.lst cs)) := propext Iff.rfl
@[simp] theorem cNoPart_e {R : Option Int → CH → Prop} : cNoPart τ G R = R none G := propext Iff.rfl
@[simp] theorem cPart_e {R : Option Int → CH → Prop} : cPart T τ G R = T τ G fun c G1 => ∃ i, c = .a (.int i) ∧ R (some i) G1 := propext Iff.rfl
@[simp] theorem cSlice_e {r : CSl} {l h : CTO} : cSlice r T l h τ G R = T τ G fun c G1 => l τ G1 fun i G2 => h τ G2 fun j G3 => r c i j G3 R := propext Iff.rfl
@[simp] theorem cCB_e {r : CL} : cCB r As τ G R = As τ G fun cs G1 => r cs G1 R := propext Iff.rfl
@[simp] theorem cCall_e {sp : CSp} {ds : List CV} : cCall sp ds As τ G R = As τ G fun cs G1 => sp (cs ++ ds) G1 R := propext Iff.rfl
@[simp] theorem cMeth_e {tab : MTab} : cMeth tab T As τ G R = T τ G fun x G1 => kMeth tab As τ x G1 R := propext Iff.rfl
@[simp] theorem cMake_e {k : Nat} {sp : CSp} {ds : List CV} : cMake k sp ds As τ G R = As τ G fun cs G1 => ∀ p, G1 p = none → sp (.a (.ref p) :: (cs ++ ds)) (cup G1 p (.ins k [])) fun v G2 => v = .a .non ∧ R (.a (.ref p)) G2 := propext Iff.rfl
@[simp] theorem cIsi_e {ts : List String} : cIsi ts T τ G R = T τ G fun c G1 => ∃ t, cTy G1 c = some t ∧ R (.a (.bl (ts.any (isT t)))) G1 := propext Iff.rfl
@[simp] theorem cBM_e {ts : List String} {r : String → CV → CL} : cBM ts r T As τ G R = T τ G fun x G1 => ∃ k, k ∈ ts ∧ bty G1 x = some k ∧ As τ G1 fun cs G2 => r k x cs G2 R := propext Iff.rfl
@[simp] theorem cTupRg_e {t : CSt → CH → (Int → Int → CH → Prop) → Prop} : cTupRg t τ G R = t τ G fun a b G1 => RgOk a b ∧ R (.tup (rgC a b)) G1 := propext Iff.rfl
@[simp] theorem cLstRg_e {t : CSt → CH → (Int → Int → CH → Prop) → Prop} : cLstRg t τ G R = t τ G fun a b G1 => RgOk a b ∧ ∀ q, G1 q = none → R (.a (.ref q)) (cup G1 q (.lst (rgC a b))) := propext Iff.rfl
@[simp] theorem cRg1_e {R : Int → Int → CH → Prop} : cRg1 T τ G R = T τ G fun c G1 => ∃ n, c = .a (.int n) ∧ R 0 n G1 := propext Iff.rfl
@[simp] theorem cRg2_e {R : Int → Int → CH → Prop} : cRg2 T U τ G R = T τ G fun c G1 => U τ G1 fun d G2 => ∃ i j, c = .a (.int i) ∧ d = .a (.int j) ∧ R i j G2 := propext Iff.rfl
@[simp] theorem cNewD_e {b : Bool} : cNewD b τ G R = ∀ p, G p = none → R (.a (.ref p)) (cup G p (.dic b [])) := propext Iff.rfl
@[simp] theorem cDic1_e {b : Bool} : cDic1 b T U τ G R = ∀ p, G p = none → T τ (cup G p (.dic b [])) fun x G1 => U τ G1 fun y G2 => ∃ k, keyOf x = some k ∧ okK b k = true ∧ G2 p = some (.dic b []) ∧ R (.a (.ref p)) (cup G2 p (.dic b [(k, y)])) := propext Iff.rfl
@[simp] theorem cLc_e {wi : CTI} {g : CG} {vs : List Nat} : cLc wi g c T vs τ G R = wi τ G fun S G1 => ∀ D, G1 D = none → lcL g c T S.st vs D τ R S.items (cup G1 D (.lst [])) := propext Iff.rfl
@[simp] theorem cgName_e {i : Nat} {x : CV} {R : CSt → CH → Prop} : cgName i x τ G R = R (τ.set i (some x)) G := propext Iff.rfl
@[simp] theorem cgNil_e {xs : List CV} {R : CSt → CH → Prop} : cgNil xs τ G R = (xs = [] ∧ R τ G) := propext Iff.rfl
@[simp] theorem cgCons_e {g : CG} {h : CGs} {x : CV} {xs : List CV} {R : CSt → CH → Prop} : cgCons g h (x :: xs) τ G R = g x τ G fun τ1 G1 => h xs τ1 G1 R := propext Iff.rfl
@[simp] theorem cgTup_e {n : Nat} {h : CGs} {xs : List CV} {R : CSt → CH → Prop} : cgTup n h (.tup xs) τ G R = (xs.length = n ∧ h xs τ G R) := propext Iff.rfl
@[simp] theorem cgSub_e {r : CSet} {x : CV} {R : CSt → CH → Prop} : cgSub T U r x τ G R = T τ G fun o G1 => U τ G1 fun i G2 => r o i x G2 fun G3 => R τ G3 := propext Iff.rfl
@[simp] theorem ciRg1_e {R : CSrc → CH → Prop} : ciRg1 T τ G R = T τ G fun c G1 => ∃ j : Int, c = .a (.int j) ∧ -(2 ^ 62) ≤ j ∧ j < 2 ^ 62 ∧ R (sVal ((List.range j.toNat).map fun i => CV.int (i : Nat))) G1 := propext Iff.rfl
@[simp] theorem ciRg2_e {R : CSrc → CH → Prop} : ciRg2 T U τ G R = T τ G fun c G1 => U τ G1 fun d G2 => ∃ i j : Int, c = .a (.int i) ∧ d = .a (.int j) ∧ (-(2 ^ 62) ≤ i ∧ i < 2 ^ 62 ∧ -(2 ^ 62) ≤ j ∧ j < 2 ^ 62) ∧ R (sVal ((List.range (j - i).toNat).map fun k => CV.int (i + (k : Nat)))) G2 := propext Iff.rfl
@[simp] theorem ciVal_e {R : CSrc → CH → Prop} : ciVal T τ G R = T τ G fun c G1 => ∃ S, srcOf G1 c = some S ∧ R S G1 := propext Iff.rfl
@[simp] theorem ciEnum_e {R : CSrc → CH → Prop} : ciEnum T τ G R = T τ G (kEnum R) := propext Iff.rfl
@[simp] theorem srcOf_tup {xs : List CV} : srcOf G (.tup xs) = some (sVal xs) := rfl
@[simp] theorem srcOf_str {z : Str} : srcOf G (.a (.str z)) = some (sVal (signs z)) := rfl
theorem srcOf_ref {p : Addr} {xs : List CV} (h : G p = some (.lst xs)) : srcOf G (.a (.ref p)) = some (sSeq p xs) := by
  unfold srcOf CH.seq
  simp [h]
@[simp] theorem kEnum_tup {R : CSrc → CH → Prop} {xs : List CV} : kEnum R (.tup xs) G = R ⟨enumIt xs, fun _ => True⟩ G := propext Iff.rfl
@[simp] theorem kEnum_str {R : CSrc → CH → Prop} {z : Str} : kEnum R (.a (.str z)) G = R ⟨enumIt (signs z), fun _ => True⟩ G := propext Iff.rfl
@[simp] theorem sVal_items {xs : List CV} : (sVal xs).items = xs := rfl
@[simp] theorem sVal_st {xs : List CV} : (sVal xs).st G = True := propext Iff.rfl
@[simp] theorem sSeq_items {p : Addr} {xs : List CV} : (sSeq p xs).items = xs := rfl
@[simp] theorem sSeq_st {p : Addr} {xs : List CV} : (sSeq p xs).st G = (G.seq p = some xs) := propext Iff.rfl
@[simp] theorem cAdd_ii {i j : Int} : cAdd (.a (.int i)) (.a (.int j)) G R = R (.a (.int (i + j))) G := propext Iff.rfl
@[simp] theorem cAdd_ss {x y : Str} : cAdd (.a (.str x)) (.a (.str y)) G R = (x.length + y.length ≤ sizeLine ∧ R (.a (.str (x ++ y))) G) := propext Iff.rfl
@[simp] theorem cAdd_tt {x y : List CV} : cAdd (.tup x) (.tup y) G R = (x.length + y.length ≤ sizeLine ∧ R (.tup (x ++ y)) G) := propext Iff.rfl
@[simp] theorem cSub_ii {i j : Int} : cSub (.a (.int i)) (.a (.int j)) G R = R (.a (.int (i - j))) G := propext Iff.rfl
@[simp] theorem cMul_ii {i j : Int} : cMul (.a (.int i)) (.a (.int j)) G R = (CMulB i j ∧ R (.a (.int (i * j))) G) := propext Iff.rfl
@[simp] theorem cDiv_ii {i j : Int} : cDiv (.a (.int i)) (.a (.int j)) G R = (CDivW i j ∧ R (.a (.int (i / j))) G) := propext Iff.rfl
@[simp] theorem cMod_ii {i j : Int} : cMod (.a (.int i)) (.a (.int j)) G R = (0 < j ∧ R (.a (.int (i % j))) G) := propext Iff.rfl
@[simp] theorem cPow_ii {i j : Int} : cPow (.a (.int i)) (.a (.int j)) G R = ((0 ≤ j ∧ (Builtin.Int.intBits i : Int) * j ≤ 2 ^ 27) ∧ R (.a (.int (i ^ j.toNat))) G) := propext Iff.rfl
@[simp] theorem cNeg_i {i : Int} : cNeg (.a (.int i)) G R = R (.a (.int (-i))) G := propext Iff.rfl
@[simp] theorem cAddI_ii {i j : Int} : cAddI (.a (.int i)) (.a (.int j)) G R = R (.a (.int (i + j))) G := propext Iff.rfl
@[simp] theorem cSubI_ii {i j : Int} : cSubI (.a (.int i)) (.a (.int j)) G R = R (.a (.int (i - j))) G := propext Iff.rfl
@[simp] theorem cLt_ii {i j : Int} : cLt (.a (.int i)) (.a (.int j)) G R = R (.a (.bl (decide (i < j)))) G := propext Iff.rfl
@[simp] theorem cLe_ii {i j : Int} : cLe (.a (.int i)) (.a (.int j)) G R = R (.a (.bl (decide (i ≤ j)))) G := propext Iff.rfl
@[simp] theorem cGt_ii {i j : Int} : cGt (.a (.int i)) (.a (.int j)) G R = R (.a (.bl (decide (j < i)))) G := propext Iff.rfl
@[simp] theorem cGe_ii {i j : Int} : cGe (.a (.int i)) (.a (.int j)) G R = R (.a (.bl (decide (j ≤ i)))) G := propext Iff.rfl
@[simp] theorem cIs_n {x : CV} : cIs x (.a .non) G R = R (.a (.bl (isNon x))) G := by
  cases x with
  | a v => cases v <;> rfl
  | tup xs => rfl
@[simp] theorem cIsNot_n {x : CV} : cIsNot x (.a .non) G R = R (.a (.bl (!isNon x))) G := by
  cases x with
  | a v => cases v <;> rfl
  | tup xs => rfl
@[simp] theorem isNon_n : isNon (.a .non) = true := rfl
@[simp] theorem isNon_i {i : Int} : isNon (.a (.int i)) = false := rfl
@[simp] theorem isNon_t {xs : List CV} : isNon (.tup xs) = false := rfl
@[simp] theorem isNon_s {z : Str} : isNon (.a (.str z)) = false := rfl
@[simp] theorem cTru_b {b k : Bool} : cTru (.a (.bl b)) G k = (k = b) := propext Iff.rfl
@[simp] theorem cTru_t {xs : List CV} {k : Bool} : cTru (.tup xs) G k = (k = !xs.isEmpty) := propext Iff.rfl
@[simp] theorem cTru_s {z : Str} {k : Bool} : cTru (.a (.str z)) G k = (z.length ≤ sizeLine ∧ k = ((z.length : Int) != 0)) := propext Iff.rfl
@[simp] theorem cInt_i {i : Int} : cInt [.a (.int i)] G R = R (.a (.int i)) G := propext Iff.rfl
@[simp] theorem cAbs_i {i : Int} : cAbs [.a (.int i)] G R = R (.a (.int (if i < 0 then -i else i))) G := propext Iff.rfl
@[simp] theorem cMax_ii {i j : Int} : cMax [.a (.int i), .a (.int j)] G R = R (.a (.int (if j > i then j else i))) G := propext Iff.rfl
@[simp] theorem cMin_ii {i j : Int} : cMin [.a (.int i), .a (.int j)] G R = R (.a (.int (if j < i then j else i))) G := propext Iff.rfl
@[simp] theorem cLen_t {xs : List CV} : cLen [] [.tup xs] G R = R (.a (.int xs.length)) G := propext Iff.rfl
@[simp] theorem cLen_s {z : Str} : cLen [] [.a (.str z)] G R = (z.length ≤ sizeLine ∧ R (.a (.int z.length)) G) := propext Iff.rfl
theorem cLen_l {p : Addr} {xs : List CV} (h : G p = some (.lst xs)) : cLen [] [.a (.ref p)] G R = R (.a (.int xs.length)) G := by
  unfold cLen
  simp [h]
@[simp] theorem cTuple_t {xs : List CV} : cTuple [.tup xs] G R = R (.tup xs) G := propext Iff.rfl
theorem cTuple_l {p : Addr} {xs : List CV} (h : G p = some (.lst xs)) : cTuple [.a (.ref p)] G R = R (.tup xs) G := by
  unfold cTuple CH.seq
  simp [h]
@[simp] theorem cList_t {xs : List CV} : cList [.tup xs] G R = ∀ q, G q = none → R (.a (.ref q)) (cup G q (.lst xs)) := propext Iff.rfl
@[simp] theorem cIx_t {xs : List CV} {i : Int} : cIx [] (.tup xs) (.a (.int i)) G R = (match L2.atI xs i with
  | some c => R c G
  | none => False) := propext Iff.rfl
theorem cIx_l {p : Addr} {xs : List CV} {i : Int} (h : G p = some (.lst xs)) : cIx [] (.a (.ref p)) (.a (.int i)) G R = (match L2.atI xs i with
  | some c => R c G
  | none => False) := by
  unfold cIx
  simp only [h]
  all_goals (cases L2.atI xs i <;> rfl)
@[simp] theorem cSl_t {xs : List CV} {i j : Option Int} : cSl (.tup xs) i j G R = R (.tup (cut xs i j)) G := propext Iff.rfl
theorem cSet_l {p : Addr} {xs : List CV} {i : Int} {v : CV} {R : CH → Prop} (h : G p = some (.lst xs)) : cSet (.a (.ref p)) (.a (.int i)) v G R = (match ixN xs.length i with
  | some j => R (cup G p (.lst (xs.set j v)))
  | none => False) := by
  unfold cSet
  simp only [h]
  all_goals (cases ixN xs.length i <;> rfl)
theorem kAppend_l {k : String} {p : Addr} {xs : List CV} {v : CV} (h : G p = some (.lst xs)) : kAppend k (.a (.ref p)) [v] G R = (xs.length < sizeLine ∧ R (.a .non) (cup G p (.lst (xs ++ [v])))) := by
  unfold kAppend
  simp [h]
theorem bty_l {p : Addr} {xs : List CV} (h : G p = some (.lst xs)) : bty G (.a (.ref p)) = some "list" := by
  unfold bty
  simp [h]
theorem bty_d {p : Addr} {t : Bool} {kvs : List (NestedKey × CV)} (h : G p = some (.dic t kvs)) : bty G (.a (.ref p)) = some "dict" := by
  unfold bty
  simp [h]
@[simp] theorem bty_t {xs : List CV} : bty G (.tup xs) = some "tuple" := rfl
@[simp] theorem bty_s {z : Str} : bty G (.a (.str z)) = some "str" := rfl
@[simp] theorem cTy_i {i : Int} : cTy G (.a (.int i)) = some "int" := rfl
@[simp] theorem cTy_b {i : Bool} : cTy G (.a (.bl i)) = some "bool" := rfl
@[simp] theorem cTy_s {i : Str} : cTy G (.a (.str i)) = some "str" := rfl
@[simp] theorem cTy_n : cTy G (.a .non) = some "NoneType" := rfl
@[simp] theorem cTy_t {i : List CV} : cTy G (.tup i) = some "tuple" := rfl
theorem cTy_l {p : Addr} {xs : List CV} (h : G p = some (.lst xs)) : cTy G (.a (.ref p)) = some "list" := by
  unfold cTy
  simp [h]
end
@[simp] theorem cup_s {G : CH} {p : Addr} {o : CO} : cup G p o p = some o := cup_same
section
variable {G : CH} {R : CVK} {p : Addr} {t : Bool} {kvs : List (NestedKey × CV)} {x : CV} {k : NestedKey}
theorem DictAt_of {K : Bool → List (NestedKey × CV) → Addr → NestedKey → Prop} (h : G p = some (.dic t kvs)) (hk : keyOf x = some k) (ok : okK t k = true) : DictAt G (.a (.ref p)) x K = K t kvs p k := by
  unfold DictAt
  simp [h, hk, ok]
theorem InT_dic {own : Tab} {neg : Bool} (h : G p = some (.dic t kvs)) (hk : keyOf x = some k) (ok : okK t k = true) : InT own neg x (.a (.ref p)) G R = R (.a (.bl (xr neg (dval kvs k).isSome))) G := by
  unfold InT
  simp only [h]
  exact DictAt_of h hk ok
theorem cSet_dic {v : CV} {R : CH → Prop} (h : G p = some (.dic t kvs)) (hk : keyOf x = some k) (ok : okK t k = true) : cSet (.a (.ref p)) x v G R = (kvs.length < sizeLine ∧ R (cup G p (.dic t (dput kvs k v)))) := by
  unfold cSet
  simp only [h]
  exact DictAt_of h hk ok
theorem cIx_dic (h : G p = some (.dic t kvs)) (hk : keyOf x = some k) (ok : okK t k = true) : cIx [] (.a (.ref p)) x G R = ∃ c, dval kvs k = some c ∧ R c G := by
  unfold cIx
  simp only [h]
  exact DictAt_of h hk ok
theorem kGet2_dic {T : String} {z : CV} (h : G p = some (.dic t kvs)) (hk : keyOf x = some k) (ok : okK t k = true) : kGet T (.a (.ref p)) [x, z] G R = R ((dval kvs k).getD z) G := by
  unfold kGet
  exact DictAt_of h hk ok
theorem dval_out (h : ∀ q ∈ kvs, q.1 ≠ k) : dval kvs k = none := by
  unfold dval
  rw [List.find?_eq_none.mpr fun q hq => by simpa using h q hq]
  rfl
theorem dput_out {v : CV} (h : ∀ q ∈ kvs, q.1 ≠ k) : dput kvs k v = kvs ++ [(k, v)] := by
  unfold dput
  rw [if_neg]
  intro z
  obtain ⟨q, hq, e⟩ := List.any_eq_true.mp z
  exact h q hq (of_decide_eq_true e)
theorem dval_app {a b : List (NestedKey × CV)} : dval (a ++ b) k = (dval a k).or (dval b k) := by
  unfold dval
  rw [List.find?_append]
  cases a.find? (fun p => decide (p.1 = k)) <;> rfl
theorem dval_one {j : NestedKey} {v : CV} : dval [(j, v)] k = if j = k then some v else none := by
  rw [dval_cons]
  rfl
@[simp] theorem okK_num {i : Int} : okK false (.num i) = true := rfl
@[simp] theorem okK_text {z : Str} : okK false (.text z) = true := rfl
@[simp] theorem keyOf_i {i : Int} : keyOf (.a (.int i)) = some (.num i) := rfl
@[simp] theorem keyOf_s {z : Str} : keyOf (.a (.str z)) = some (.text z) := rfl
end
theorem atI_of {α : Type} {xs : List α} {k : Nat} (h : k < xs.length) : L2.atI xs (k : Int) = some xs[k] := atI_nat (List.getElem?_eq_getElem h)
theorem ixN_at {n j : Nat} (hj : j < n) : ixN n (j : Int) = some j := by
  unfold ixN
  rw [if_pos (by omega), if_pos (by omega)]
  simp
theorem atI_pred {α : Type} {xs : List α} {k : Nat} (h0 : 1 ≤ k) (h : k - 1 < xs.length) : L2.atI xs ((k : Int) - 1) = some xs[k - 1] := by
  have : (k : Int) - 1 = ((k - 1 : Nat) : Int) := by omega
  rw [this]
  exact atI_of h
theorem ixN_pred {n k : Nat} (h0 : 1 ≤ k) (h : k - 1 < n) : ixN n ((k : Int) - 1) = some (k - 1) := by
  have : (k : Int) - 1 = ((k - 1 : Nat) : Int) := by omega
  rw [this]
  exact ixN_at h
def enumAt (n : Nat) (xs : List CV) : List CV := (xs.zipIdx n).map fun q => .tup [.a (.int (q.2 : Nat)), q.1]
theorem enumIt_at {xs : List CV} : enumIt xs = enumAt 0 xs := rfl
theorem enumAt_cons {n : Nat} {x : CV} {xs : List CV} : enumAt n (x :: xs) = .tup [.a (.int (n : Nat)), x] :: enumAt (n + 1) xs := by
  unfold enumAt
  rw [List.zipIdx_cons, List.map_cons]
theorem dnV.of {R : CVK} {v : CV} {G G' : CH} (h : R v G) (s : Sub G G') : dnV R v G' := ⟨G, s, h⟩
theorem Sub.put {G G' : CH} {p : Addr} {o : CO} (s : Sub G G') (h : G p = none) : Sub G (cup G' p o) := fun q u e => by
  have : q ≠ p := fun z => by subst z; rw [h] at e; cases e
  rw [cup_ne this]
  exact s q u e
theorem forL_step {g : CG} {tb : CTS} {D : CEnds} {st : CH → Prop} {x : CV} {xs : List CV} {τ : CSt} {G : CH} (hs : st G) (h : ∀ K, K = dnS (forL g tb D st xs) → g x τ G fun τ1 G1 => tb ⟨K, D.rt, dnS D.nx, K⟩ τ1 G1) : forL g tb D st (x :: xs) τ G := ⟨hs, h _ rfl⟩
theorem whL_step {c : CTT} {tb : CTS} {D : CEnds} {n : Nat} {τ : CSt} {G : CH} (h : ∀ K, K = dnS (whL c tb D n) → c τ G fun b G1 => if b = true then tb ⟨K, D.rt, dnS D.nx, K⟩ τ G1 else D.nx τ G1) : whL c tb D (n + 1) τ G := h _ rfl
theorem lcL_map {g : CG} {te : CTE} {st : CH → Prop} {vs : List Nat} {D : Addr} {τ : CSt} {R : CVK} (f : CV → CV) {G : CH} (hst : ∀ acc, st (cup G D (.lst acc))) : ∀ (xs : List CV) (acc : List CV), acc.length + xs.length ≤ sizeLine →
    (∀ x ∈ xs, ∀ (acc : List CV) (K : CVK), K (f x) (cup G D (.lst acc)) → g x (cwipe τ vs) (cup G D (.lst acc)) fun τ2 G2 => te τ2 G2 K) → R (.a (.ref D)) (cup G D (.lst (acc ++ xs.map f))) → lcL g cYes te st vs D τ R xs (cup G D (.lst acc))
  | [], acc, _, _, h => by
    unfold lcL
    exact ⟨hst acc, by simpa using h⟩
  | x :: xs, acc, hl, he, h => by
    unfold lcL
    refine ⟨hst acc, ?_⟩
    simp only [cYes_e, if_true]
    refine he x List.mem_cons_self acc _ ?_
    refine ⟨acc, cup_same, by simp at hl; omega, ?_⟩
    rw [cup_cup]
    refine dnH.here (lcL_map f hst xs (acc ++ [f x]) (by simp at hl ⊢; omega) (fun y hy => he y (List.mem_cons_of_mem _ hy)) ?_)
    simpa using h
mutual
def nkD : NestedKey → PyData
  | .none => .none
  | .num i => .int i
  | .text x => .str x
  | .tup ks => .tuple (nkDs ks)
def nkDs : List NestedKey → List PyData
  | [] => []
  | k :: ks => nkD k :: nkDs ks
end
mutual
theorem nk_dat (G : CH) : ∀ k : NestedKey, CDat G (nkV k) (nkD k)
  | .none => by unfold nkV nkD; exact .non
  | .num i => by unfold nkV nkD; exact .int i
  | .text x => by unfold nkV nkD; exact .str x
  | .tup ks => by unfold nkV nkD; exact .tup (nks_dat G ks)
theorem nks_dat (G : CH) : ∀ ks : List NestedKey, CDats G (nkV.nkVs ks) (nkDs ks)
  | [] => by unfold nkV.nkVs nkDs; exact .nil
  | k :: ks => by unfold nkV.nkVs nkDs; exact .cons (nk_dat G k) (nks_dat G ks)
end
mutual
theorem nk_eqv : ∀ a b : NestedKey, PyData.eqv (nkD a) (nkD b) = decide (a = b)
  | .none, .none => by simp [nkD, PyData.eqv]
  | .none, .num _ => by simp [nkD, PyData.eqv]
  | .none, .text _ => by simp [nkD, PyData.eqv]
  | .none, .tup _ => by simp [nkD, PyData.eqv]
  | .num _, .none => by simp [nkD, PyData.eqv]
  | .num i, .num j => by simp only [nkD, PyData.eqv, NestedKey.num.injEq]; exact Bool.beq_eq_decide_eq i j
  | .num _, .text _ => by simp [nkD, PyData.eqv]
  | .num _, .tup _ => by simp [nkD, PyData.eqv]
  | .text _, .none => by simp [nkD, PyData.eqv]
  | .text _, .num _ => by simp [nkD, PyData.eqv]
  | .text x, .text y => by simp only [nkD, PyData.eqv, NestedKey.text.injEq]; exact Bool.beq_eq_decide_eq x y
  | .text _, .tup _ => by simp [nkD, PyData.eqv]
  | .tup _, .none => by simp [nkD, PyData.eqv]
  | .tup _, .num _ => by simp [nkD, PyData.eqv]
  | .tup _, .text _ => by simp [nkD, PyData.eqv]
  | .tup xs, .tup ys => by simp only [nkD, PyData.eqv, NestedKey.tup.injEq]; exact nks_eqv xs ys
theorem nks_eqv : ∀ a b : List NestedKey, PyData.eqvAll (nkDs a) (nkDs b) = decide (a = b)
  | [], [] => by simp [nkDs, PyData.eqvAll]
  | [], _ :: _ => by simp [nkDs, PyData.eqvAll]
  | _ :: _, [] => by simp [nkDs, PyData.eqvAll]
  | x :: xs, y :: ys => by
    simp only [nkDs, PyData.eqvAll, nk_eqv x y, nks_eqv xs ys]
    simp
end
mutual
theorem keyOf_nk : ∀ k : NestedKey, keyOf (nkV k) = some k
  | .none => by unfold nkV keyOf; rfl
  | .num i => by unfold nkV keyOf; rfl
  | .text x => by unfold nkV keyOf; rfl
  | .tup ks => by unfold nkV keyOf; rw [keysOf_nk ks]; rfl
theorem keysOf_nk : ∀ ks : List NestedKey, keyOf.keysOf (nkV.nkVs ks) = some ks
  | [] => by unfold nkV.nkVs keyOf.keysOf; rfl
  | k :: ks => by unfold nkV.nkVs keyOf.keysOf; rw [keyOf_nk k, keysOf_nk ks]
end
theorem nkVs_map : ∀ ks : List NestedKey, nkV.nkVs ks = ks.map nkV
  | [] => rfl
  | k :: ks => by unfold nkV.nkVs; rw [nkVs_map ks]; rfl
/-- data that may be compared -/
def okD (k : NestedKey) : Prop := SeqAt.shaped (nkD k) = true
theorem ceq_nk {a b : NestedKey} {G : CH} {R : CVK} (ha : okD a) (hb : okD b) (h : R (.a (.bl (decide (a = b)))) G) : cEq (nkV a) (nkV b) G R :=
  ⟨_, _, nk_dat G a, nk_dat G b, ha, hb, by rw [nk_eqv]; exact h⟩
theorem cne_nk {a b : NestedKey} {G : CH} {R : CVK} (ha : okD a) (hb : okD b) (h : R (.a (.bl (!decide (a = b)))) G) : cNe (nkV a) (nkV b) G R :=
  ⟨_, _, nk_dat G a, nk_dat G b, ha, hb, by rw [nk_eqv]; exact h⟩
theorem okD_num {i : Int} : okD (.num i) := by
  unfold okD SeqAt.shaped nkD
  rfl
theorem okD_non : okD .none := by
  unfold okD SeqAt.shaped nkD
  rfl
@[simp] theorem ceq_ii {i j : Int} {G : CH} {R : CVK} : cEq (.a (.int i)) (.a (.int j)) G R = R (.a (.bl (decide (i = j)))) G := by
  apply propext
  constructor
  · rintro ⟨d, e, h1, h2, _, _, h⟩
    cases h1; cases h2
    have : PyData.eqv (.int i) (.int j) = decide (i = j) := by simp only [PyData.eqv]; exact Bool.beq_eq_decide_eq i j
    rw [this] at h
    exact h
  · intro h
    have := ceq_nk (a := .num i) (b := .num j) (G := G) (R := R) okD_num okD_num (by simpa using h)
    simpa [nkV] using this
@[simp] theorem cne_ii {i j : Int} {G : CH} {R : CVK} : cNe (.a (.int i)) (.a (.int j)) G R = R (.a (.bl (!decide (i = j)))) G := by
  apply propext
  constructor
  · rintro ⟨d, e, h1, h2, _, _, h⟩
    cases h1; cases h2
    have : PyData.eqv (.int i) (.int j) = decide (i = j) := by simp only [PyData.eqv]; exact Bool.beq_eq_decide_eq i j
    rw [this] at h
    exact h
  · intro h
    have := cne_nk (a := .num i) (b := .num j) (G := G) (R := R) okD_num okD_num (by simpa using h)
    simpa [nkV] using this
theorem inV_int {i : Int} : ∀ {xs : List Int}, inV (.int i) (xs.map V.int) = decide (i ∈ xs)
  | [] => rfl
  | x :: xs => by
    have ih := inV_int (i := i) (xs := xs)
    unfold inV at ih ⊢
    rw [List.map_cons, List.any_cons, ih]
    show ((x == i) || decide (i ∈ xs)) = decide (i ∈ x :: xs)
    by_cases h : x = i
    · simp [h]
    · have : ¬ i = x := fun e => h e.symm
      simp [h, this]
theorem flat_ints : ∀ xs : List Int, (xs.map V.int).all flatV = true
  | [] => rfl
  | x :: xs => by rw [List.map_cons, List.all_cons, flat_ints xs]; rfl
theorem map_atoms (xs : List Int) : (xs.map V.int).map CV.a = xs.map CV.int := by rw [List.map_map]; rfl
theorem InT_ints {own : Tab} {neg : Bool} {i : Int} {xs : List Int} {G : CH} {R : CVK} (h : R (.a (.bl (xr neg (decide (i ∈ xs))))) G) : InT own neg (.a (.int i)) (.tup (xs.map CV.int)) G R := by
  unfold InT
  exact ⟨.int i, xs.map V.int, rfl, (map_atoms xs).symm, rfl, flat_ints xs, by rw [inV_int]; exact h⟩
abbrev nC (n : Nat) : CV := .a (.int (n : Int))
abbrev rowC (r : List Nat) : CV := .tup (r.map nC)
abbrev endR (R : CVK) : CEnds := { nx := fun _ G' => dnV R (.a .non) G', rt := dnV R }
def rowK (r : List Nat) : NestedKey := .tup (r.map fun n : Nat => .num (n : Int))
theorem nkV_rowK (r : List Nat) : nkV (rowK r) = rowC r := by
  unfold rowK nkV
  rw [nkVs_map, List.map_map]
  congr 1
theorem rowK_inj {r s : List Nat} (h : rowK r = rowK s) : r = s := by
  unfold rowK at h
  injection h with h
  induction r generalizing s with
  | nil => cases s with
    | nil => rfl
    | cons x s => cases h
  | cons x r ih => cases s with
    | nil => cases h
    | cons y s =>
      rw [List.map_cons, List.map_cons] at h
      injection h with h1 h2
      injection h1 with h1
      rw [ih h2, show x = y by omega]
theorem rowK_iff {r s : List Nat} : rowK r = rowK s ↔ r = s := ⟨rowK_inj, fun e => by rw [e]⟩
theorem okD_rowK (r : List Nat) : okD (rowK r) := by
  unfold okD SeqAt.shaped rowK
  have h1 : ∀ l : List Nat, PyData.canLayAll0 (nkDs (l.map fun n : Nat => NestedKey.num (n : Int))) = true := by
    intro l
    induction l with
    | nil => rfl
    | cons x l ih =>
      rw [List.map_cons]
      unfold nkDs PyData.canLayAll0
      rw [ih]
      rfl
  have h2 : ∀ l : List Nat, PyData.depthAll (nkDs (l.map fun n : Nat => NestedKey.num (n : Int))) = 0 := by
    intro l
    induction l with
    | nil => rfl
    | cons x l ih =>
      rw [List.map_cons]
      unfold nkDs PyData.depthAll
      rw [ih]
      rfl
  unfold nkD PyData.canLay0 PyData.depth
  rw [h1, h2]
  rfl
theorem ceq_row {r s : List Nat} {G : CH} {R : CVK} (h : R (.a (.bl (decide (r = s)))) G) : cEq (rowC r) (rowC s) G R := by
  rw [← nkV_rowK, ← nkV_rowK]
  refine ceq_nk (okD_rowK r) (okD_rowK s) ?_
  rw [show decide (rowK r = rowK s) = decide (r = s) from decide_eq_decide.mpr rowK_iff]
  exact h
theorem cne_row {r s : List Nat} {G : CH} {R : CVK} (h : R (.a (.bl (!decide (r = s)))) G) : cNe (rowC r) (rowC s) G R := by
  rw [← nkV_rowK, ← nkV_rowK]
  refine cne_nk (okD_rowK r) (okD_rowK s) ?_
  rw [show decide (rowK r = rowK s) = decide (r = s) from decide_eq_decide.mpr rowK_iff]
  exact h
theorem row_ints (r : List Nat) : r.map nC = (r.map fun n : Nat => (n : Int)).map CV.int := by rw [List.map_map]; rfl
theorem mem_ints {n : Nat} {r : List Nat} : (n : Int) ∈ (r.map fun n : Nat => (n : Int)) ↔ n ∈ r := by
  rw [List.mem_map]
  constructor
  · rintro ⟨m, h, e⟩
    rw [show n = m by omega]
    exact h
  · exact fun h => ⟨n, h, rfl⟩
theorem InT_row {own : Tab} {neg : Bool} {n : Nat} {r : List Nat} {G : CH} {R : CVK} (h : R (.a (.bl (xr neg (decide (n ∈ r))))) G) : InT own neg (nC n) (rowC r) G R := by
  show InT own neg (nC n) (.tup (r.map nC)) G R
  rw [row_ints]
  refine InT_ints ?_
  rw [show decide ((n : Int) ∈ (r.map fun n : Nat => (n : Int))) = decide (n ∈ r) from decide_eq_decide.mpr mem_ints]
  exact h
def isIntIn (lo hi : Int) : CV → Bool
  | .a (.int i) => decide (lo ≤ i) && decide (i ≤ hi)
  | _ => false
def sp_is_integer : CSp := fun cs G R => match cs with
  | [x, .a (.int lo), .a (.int hi)] => ∃ t, cTy G x = some t ∧ R (.a (.bl (isIntIn lo hi x))) G
  | _ => False
/-- a list or tuple comes as a tuple, what is neither as it is -/
def sp_flat : CSp := fun cs G R => match cs with
  | [.tup xs] => R (.tup xs) G
  | [.a (.ref p)] => ∃ xs, G p = some (.lst xs) ∧ R (.tup xs) G
  | _ => False
def sp_first_row : CSp := fun cs G R => match cs with
  | [.a (.int i)] => ∃ n : Nat, i = n ∧ n ≤ 100 ∧ R (rowC (List.range' 1 n)) G
  | _ => False
def timesR (r m : List Nat) : List Nat := m.map fun p => r.getD (p - 1) 0
def sp_times : CSp := fun cs G R => match cs with
  | [x, y] => ∃ r m : List Nat, x = rowC r ∧ y = rowC m ∧ m.length ≤ 100 ∧ (∀ p ∈ m, 1 ≤ p ∧ p ≤ r.length) ∧ R (rowC (timesR r m)) G
  | _ => False
def sp_place_in : CSp := fun cs G R => match cs with
  | [x, y] => ∃ (r : List Nat) (b j : Nat), x = rowC r ∧ y = nC b ∧ r[j]? = some b ∧ r.Nodup ∧ R (nC (j + 1)) G
  | _ => False
/-- rising ints within -/
def risingB (lo hi : Int) : Option Int → List Int → Bool
  | _, [] => true
  | o, x :: xs => (decide (lo ≤ x) && decide (x ≤ hi)) && ((match o with
    | some l => decide (l < x)
    | none => true) && risingB lo hi (some x) xs)
def sp_is_rising : CSp := fun cs G R => match cs with
  | [.tup xs, .a (.int lo), .a (.int hi)] => ∃ ns : List Int, xs = ns.map CV.int ∧ R (.a (.bl (risingB lo hi none ns))) G
  | _ => False
def sp_is_places : CSp := fun cs G R => match cs with
  | [.tup xs, .a (.int hi)] => ∃ ns : List Int, xs = ns.map CV.int ∧ ns ≠ [] ∧ risingB 1 hi none ns = true ∧ R (.a (.bl true)) G
  | _ => False
/-- a row of the stage -/
structure Perm (n : Nat) (r : List Nat) : Prop where
  len : r.length = n
  nd : r.Nodup
  rng : ∀ x ∈ r, 1 ≤ x ∧ x ≤ n
def sp_is_sound_row : CSp := fun cs G R => match cs with
  | [x, .a (.int i)] => ∃ (r : List Nat) (n : Nat), x = rowC r ∧ i = n ∧ n ≤ 100 ∧ Perm n r ∧ R (.a (.bl true)) G
  | _ => False
/-- a change that is sound: k places from p on -/
inductive Ch : Nat → Nat → List Nat → Prop
  | nil (p : Nat) : Ch 0 p []
  | keep {k p : Nat} {l : List Nat} : Ch k (p + 1) l → Ch (k + 1) p (p :: l)
  | swap {k p : Nat} {l : List Nat} : Ch k (p + 2) l → Ch (k + 2) p l
/-- the move of such a change -/
def cmGo (ch : List Nat) : Nat → Nat → List Nat
  | 0, _ => []
  | 1, p => [p]
  | k + 2, p => if p ∈ ch then p :: cmGo ch (k + 1) (p + 1) else (p + 1) :: p :: cmGo ch k (p + 2)
def mvOf (ch : List Nat) (n : Nat) : List Nat := cmGo ch n 1
def sp_change_move : CSp := fun cs G R => match cs with
  | [x, .a (.int i)] => ∃ (l : List Nat) (n : Nat), x = rowC l ∧ i = n ∧ n ≤ 100 ∧ Ch n 1 l ∧ R (rowC (mvOf l n)) G
  | _ => False
def sp_is_sound_change : CSp := fun cs G R => match cs with
  | [x, .a (.int i)] => ∃ (l : List Nat) (n : Nat), x = rowC l ∧ i = n ∧ n ≤ 100 ∧ Ch n 1 l ∧ R (.a (.bl true)) G
  | _ => False
abbrev ltS (c : Nat) : Str := ⟨#[c]⟩
/-- a letter from a to z -/
def Lt (c : Nat) : Prop := 97 ≤ c ∧ c ≤ 122
def sp_is_letter : CSp := fun cs G R => match cs with
  | [.a (.str z)] => ∃ c, z = ltS c ∧ Lt c ∧ R (.a (.bl true)) G
  | _ => False
def sp_are_changes : CSp := fun cs G R => match cs with
  | [.tup xs, .a (.int i)] => ∃ (ls : List (List Nat)) (n : Nat), xs = ls.map rowC ∧ i = n ∧ n ≤ 100 ∧ ls ≠ [] ∧ (∀ l ∈ ls, Ch n 1 l) ∧ R (.a (.bl true)) G
  | _ => False
/-- is_integer -/
def T_is_integer : CTS := (cSeq (cIfS (cOr (cTruth (cIsi ["bool"] (cVar 0))) (cNot (cTruth (cIsi ["int"] (cVar 0))))) (cRet (cC (.bl false))) cNext)
    (cRet (cChain cLe cLe (cVar 1) (cVar 0) (cVar 2))))
/-- flat -/
def T_flat : CTS := (cSeq (cIfS (cTruth (cIsi ["list", "tuple"] (cVar 0))) (cRet (cCB cTuple (cCons (cVar 0) cNil))) cNext)
    (cRet (cVar 0)))
/-- first_row -/
def T_first_row : CTS := (cRet (cTupRg (cRg2 (cC (.int 1)) (cOp cAdd (cVar 0) (cC (.int 1))))))
/-- times -/
def T_times : CTS := (cRet (cCB cTuple (cCons (cLc (ciVal (cVar 1)) (cgName 2) cYes (cOp (cIx []) (cVar 0) (cOp cSub (cVar 2) (cC (.int 1)))) [2]) cNil)))
/-- place_in -/
def T_place_in : CTS := (cRet (cOp cAdd (cBM ["tuple", "list"] kIndex (cVar 0) (cCons (cVar 1) cNil)) (cC (.int 1))))
def T_is_rising_L1 : CTS := (cSeq (cIfS (cNot (cTruth (cCall sp_is_integer [] (cCons (cVar 4) (cCons (cVar 1) (cCons (cVar 2) cNil)))))) (cRet (cC (.bl false))) cNext)
    (cSeq (cIfS (cAnd (cTest (cOp cIsNot (cVar 3) (cC .non))) (cTest (cOp cLe (cVar 4) (cVar 3)))) (cRet (cC (.bl false))) cNext)
    (cSetN 3 (cVar 4))))
/-- is_rising -/
def T_is_rising : CTS := (cSeq (cIfS (cNot (cTruth (cIsi ["tuple"] (cVar 0)))) (cRet (cC (.bl false))) cNext)
    (cSeq (cSetN 3 (cC .non))
    (cSeq (cFor (ciVal (cVar 0)) (cgName 4) T_is_rising_L1)
    (cRet (cC (.bl true))))))
/-- is_places -/
def T_is_places : CTS := (cRet (cAndV (cCall sp_is_rising [] (cCons (cVar 0) (cCons (cC (.int 1)) (cCons (cVar 1) cNil)))) (cOp cGt (cCB (cLen []) (cCons (cVar 0) cNil)) (cC (.int 0)))))
def T_is_sound_row_L1 : CTS := (cSeq (cIfS (cOr (cNot (cTruth (cCall sp_is_integer [] (cCons (cVar 3) (cCons (cC (.int 1)) (cCons (cVar 1) cNil)))))) (cTest (cOp (InT [] false) (cVar 3) (cVar 2)))) (cRet (cC (.bl false))) cNext)
    (cAsg (cC (.bl true)) (cgSub (cVar 2) (cVar 3) cSet)))
/-- is_sound_row -/
def T_is_sound_row : CTS := (cSeq (cIfS (cOr (cNot (cTruth (cIsi ["tuple"] (cVar 0)))) (cTest (cOp cNe (cCB (cLen []) (cCons (cVar 0) cNil)) (cVar 1)))) (cRet (cC (.bl false))) cNext)
    (cSeq (cSetN 2 (cNewD false))
    (cSeq (cFor (ciVal (cVar 0)) (cgName 3) T_is_sound_row_L1)
    (cRet (cC (.bl true))))))
def T_change_move_L1 : CTS := (cIfS (cTest (cOp (InT [] false) (cVar 3) (cVar 0))) (cAug 3 (cC (.int 1)) cAddI) (cSeq (cAsg (cOp cAdd (cVar 3) (cC (.int 1))) (cgSub (cVar 2) (cOp cSub (cVar 3) (cC (.int 1))) cSet))
    (cSeq (cAsg (cVar 3) (cgSub (cVar 2) (cVar 3) cSet))
    (cAug 3 (cC (.int 2)) cAddI))))
/-- change_move -/
def T_change_move : CTS := (cSeq (cSetN 2 (cLstRg (cRg2 (cC (.int 1)) (cOp cAdd (cVar 1) (cC (.int 1))))))
    (cSeq (cSetN 3 (cC (.int 1)))
    (cSeq (cWhile (cTest (cOp cLe (cVar 3) (cVar 1))) T_change_move_L1)
    (cRet (cCB cTuple (cCons (cVar 2) cNil))))))
def T_is_sound_change_L1 : CTS := (cSeq (cIfS (cTest (cOp cEq (cOp cMod (cOp cSub (cOp cSub (cVar 3) (cVar 2)) (cC (.int 1))) (cC (.int 2))) (cC (.int 1)))) (cRet (cC (.bl false))) cNext)
    (cSetN 2 (cVar 3)))
/-- is_sound_change -/
def T_is_sound_change : CTS := (cSeq (cIfS (cNot (cTruth (cCall sp_is_rising [] (cCons (cVar 0) (cCons (cC (.int 1)) (cCons (cVar 1) cNil)))))) (cRet (cC (.bl false))) cNext)
    (cSeq (cSetN 2 (cC (.int 0)))
    (cSeq (cFor (ciVal (cLst (cStar (cVar 0) (cCons (cOp cAdd (cVar 1) (cC (.int 1))) cNil)))) (cgName 3) T_is_sound_change_L1)
    (cRet (cC (.bl true))))))
/-- is_letter -/
def T_is_letter : CTS := (cRet (cAndV (cIsi ["str"] (cVar 0)) (cAndV (cOp cEq (cCB (cLen []) (cCons (cVar 0) cNil)) (cC (.int 1))) (cOp (InT [] false) (cVar 0) (cC (.str "abcdefghijklmnopqrstuvwxyz"))))))
def T_are_changes_L1 : CTS := (cIfS (cNot (cTruth (cCall sp_is_sound_change [] (cCons (cVar 2) (cCons (cVar 1) cNil))))) (cRet (cC (.bl false))) cNext)
/-- are_changes -/
def T_are_changes : CTS := (cSeq (cIfS (cOr (cNot (cTruth (cIsi ["tuple"] (cVar 0)))) (cNot (cTruth (cVar 0)))) (cRet (cC (.bl false))) cNext)
    (cSeq (cFor (ciVal (cVar 0)) (cgName 2) T_are_changes_L1)
    (cRet (cC (.bl true)))))
theorem cTy_ref {G : CH} {p : Addr} {t : String} (h : cTy G (.a (.ref p)) = some t) : t = "list" ∨ t = "dict" := by
  change (match G p with
    | some (.lst _) => some "list"
    | some (.rls _) => some "list"
    | some (.dic false _) => some "dict"
    | _ => none) = some t at h
  split at h <;> first | (cases h; exact .inl rfl) | (cases h; exact .inr rfl) | cases h
theorem p_is_integer : ∀ cs G R, sp_is_integer cs G R → T_is_integer (endR R) (cstart 3 cs) G := by
  intro cs G R h
  unfold sp_is_integer at h
  split at h
  · rename_i x lo hi
    obtain ⟨t, ht, h⟩ := h
    unfold T_is_integer
    cases x with
    | tup xs => cases ht; simp [cstart, isT]; exact .of h .rfl'
    | a v =>
      cases v with
      | int i =>
        cases ht
        unfold isIntIn at h
        simp [cstart, isT]
        by_cases h1 : lo ≤ i
        · refine .inr ⟨h1, ?_⟩
          simp [h1] at h
          exact .of h .rfl'
        · refine .inl ⟨by omega, ?_⟩
          simp [h1] at h
          exact .of h .rfl'
      | bl b => cases ht; simp [cstart, isT]; exact .of h .rfl'
      | str b => cases ht; simp [cstart, isT]; exact .of h .rfl'
      | non => cases ht; simp [cstart, isT]; exact .of h .rfl'
      | ref p =>
        have e : isT t "bool" = false ∧ isT t "int" = false := by
          rcases cTy_ref ht with e | e <;> (subst e; decide)
        simp [cstart, ht, e.1, e.2]
        exact .of h .rfl'
      | _ => cases ht
  · exact h.elim
theorem p_flat : ∀ cs G R, sp_flat cs G R → T_flat (endR R) (cstart 1 cs) G := by
  intro cs G R h
  unfold sp_flat at h
  split at h
  · unfold T_flat
    simp [cstart, isT]
    exact .of h .rfl'
  · obtain ⟨xs, e, h⟩ := h
    unfold T_flat
    simp [cstart, isT, cTy_l e, cTuple_l e]
    exact .of h .rfl'
  · exact h.elim
theorem rg_row (n : Nat) : rgC 1 ((n : Int) + 1) = (List.range' 1 n).map nC := by
  unfold rgC
  rw [show ((n : Int) + 1 - 1).toNat = n by omega, List.range'_eq_map_range, List.map_map]
  congr 1
theorem rgOk_n {n : Nat} (h : n ≤ 100) : RgOk 1 ((n : Int) + 1) := ⟨by omega, by omega, by omega, by omega, by omega⟩
theorem p_first_row : ∀ cs G R, sp_first_row cs G R → T_first_row (endR R) (cstart 1 cs) G := by
  intro cs G R h
  unfold sp_first_row at h
  split at h
  · obtain ⟨n, rfl, hn, h⟩ := h
    unfold T_first_row
    simp [cstart]
    refine ⟨rgOk_n hn, ?_⟩
    rw [rg_row]
    exact .of h .rfl'
  · exact h.elim
theorem ix_row {r : List Nat} {p : Nat} {G : CH} {R : CVK} (h1 : 1 ≤ p) (h2 : p ≤ r.length) (h : R (nC (r.getD (p - 1) 0)) G) : cIx [] (rowC r) (.a (.int ((p : Int) - 1))) G R := by
  have hl : p - 1 < (r.map nC).length := by rw [List.length_map]; omega
  have e : r.getD (p - 1) 0 = r[p - 1]'(by omega) := getD_at (by omega)
  rw [cIx_t, atI_pred h1 hl]
  rw [e] at h
  simpa using h
theorem timesR_len {r m : List Nat} : (timesR r m).length = m.length := by unfold timesR; rw [List.length_map]
theorem p_times : ∀ cs G R, sp_times cs G R → T_times (endR R) (cstart 3 cs) G := by
  intro cs G R h
  unfold sp_times at h
  split at h
  · obtain ⟨r, m, rfl, rfl, hm, hp, h⟩ := h
    unfold T_times
    simp [cstart]
    intro D hD
    refine lcL_map (fun c => match c with
      | .a (.int i) => nC (r.getD (i.toNat - 1) 0)
      | _ => c) (fun _ => trivial) _ [] (by simp; rw [sizeLine_eq]; omega) (fun x hx acc K hK => ?_) ?_
    · obtain ⟨p, hpm, rfl⟩ := List.mem_map.mp hx
      obtain ⟨h1, h2⟩ := hp p hpm
      simp [cwipe]
      exact ix_row h1 h2 (by simpa using hK)
    · rw [cTuple_l cup_same]
      refine .of ?_ (Sub.new hD)
      rw [List.nil_append, List.map_map]
      have e : (m.map ((fun c => match c with
        | .a (.int i) => nC (r.getD (i.toNat - 1) 0)
        | _ => c) ∘ nC)) = (timesR r m).map nC := by
        unfold timesR
        rw [List.map_map]
        refine List.map_congr_left fun p _ => ?_
        simp
      rw [e]
      exact h
  · exact h.elim
theorem nodup_ix {r : List Nat} (nd : r.Nodup) {i j : Nat} {b : Nat} (h1 : r[i]? = some b) (h2 : r[j]? = some b) : i = j := by
  obtain ⟨l1, e1⟩ := List.getElem?_eq_some_iff.mp h1
  obtain ⟨l2, e2⟩ := List.getElem?_eq_some_iff.mp h2
  exact (List.getElem_inj nd).mp (e1.trans e2.symm)
theorem ixAt_row {r : List Nat} {b j : Nat} (h : r[j]? = some b) (nd : r.Nodup) : IxAt (r.map fun n : Nat => V.int (n : Int)) (.int (b : Int)) j := by
  refine ⟨rfl, ?_, .int (b : Int), ?_, ?_, fun m z' hm hz => ?_⟩
  · rw [List.all_map]
    exact List.all_eq_true.mpr fun x _ => rfl
  · rw [List.getElem?_map, h]; rfl
  · show ((b : Int) == (b : Int)) = true
    simp
  · rw [List.getElem?_map] at hz
    cases e : r[m]? with
    | none => rw [e] at hz; cases hz
    | some c =>
      rw [e] at hz
      cases hz
      show ((c : Int) == (b : Int)) = false
      refine beq_eq_false_iff_ne.mpr fun z => ?_
      have : c = b := by omega
      subst this
      have := nodup_ix nd e h
      omega
theorem row_atoms (r : List Nat) : r.map nC = (r.map fun n : Nat => V.int (n : Int)).map CV.a := by rw [List.map_map]; rfl
theorem p_place_in : ∀ cs G R, sp_place_in cs G R → T_place_in (endR R) (cstart 2 cs) G := by
  intro cs G R h
  unfold sp_place_in at h
  split at h
  · obtain ⟨r, b, j, rfl, rfl, e, nd, h⟩ := h
    unfold T_place_in
    simp [cstart]
    unfold kIndex
    refine ⟨rfl, _, j, row_atoms r, ixAt_row e nd, ?_⟩
    simp only [cAdd_ii, cC_e]
    refine .of ?_ .rfl'
    have e2 : (((j + 1 : Nat)) : Int) = (j : Int) + 1 := by omega
    rw [← e2]
    exact h
  · exact h.elim
def optC : Option Int → CV
  | some l => .a (.int l)
  | none => .a .non
theorem risingB_cons {lo hi x : Int} {o : Option Int} {xs : List Int} : risingB lo hi o (x :: xs) = ((decide (lo ≤ x) && decide (x ≤ hi)) && ((match o with
    | some l => decide (l < x)
    | none => true) && risingB lo hi (some x) xs)) := by cases o <;> rfl
theorem rising_loop {D : CEnds} {t0 : CV} {lo hi : Int} {G : CH} {st : CH → Prop} (hst : st G) : ∀ (ns : List Int) (o : Option Int) (o4 : Option CV), (risingB lo hi o ns = true → ∀ τ', D.nx τ' G) → (risingB lo hi o ns = false → D.rt (.a (.bl false)) G) →
    forL (cgName 4) T_is_rising_L1 D st (ns.map CV.int) [some t0, some (.a (.int lo)), some (.a (.int hi)), some (optC o), o4] G
  | [], o, o4, h1, h2 => ⟨hst, h1 rfl _⟩
  | x :: xs, o, o4, h1, h2 => by
    rw [List.map_cons]
    refine forL_step hst fun K hK => ?_
    by_cases hx : lo ≤ x ∧ x ≤ hi
    · have e1 : (decide (lo ≤ x) && decide (x ≤ hi)) = true := by simp [hx]
      cases o with
      | none =>
        have e : risingB lo hi none (x :: xs) = risingB lo hi (some x) xs := by
          rw [risingB_cons, e1]; rfl
        rw [e] at h1 h2
        simp [T_is_rising_L1, sp_is_integer, isIntIn, hx.1, hx.2, optC]
        rw [hK]
        exact dnS.here (rising_loop hst xs (some x) _ h1 h2)
      | some l =>
        by_cases hl : l < x
        · have e : risingB lo hi (some l) (x :: xs) = risingB lo hi (some x) xs := by
            rw [risingB_cons, e1]
            simp [hl]
          rw [e] at h1 h2
          have hl' : ¬ x ≤ l := by omega
          simp [T_is_rising_L1, sp_is_integer, isIntIn, hx.1, hx.2, optC, hl']
          rw [hK]
          exact dnS.here (rising_loop hst xs (some x) _ h1 h2)
        · have e : risingB lo hi (some l) (x :: xs) = false := by
            rw [risingB_cons, e1]
            simp [hl]
          have hl' : x ≤ l := by omega
          simp [T_is_rising_L1, sp_is_integer, isIntIn, hx.1, hx.2, optC, hl']
          exact h2 e
    · have e : risingB lo hi o (x :: xs) = false := by
        rw [risingB_cons]
        have : (decide (lo ≤ x) && decide (x ≤ hi)) = false := by
          rcases Classical.em (lo ≤ x) with a | a
          · have : ¬ x ≤ hi := fun b => hx ⟨a, b⟩
            simp [this]
          · simp [a]
        rw [this]; rfl
      by_cases h3 : lo ≤ x
      · have h4 : ¬ x ≤ hi := fun b => hx ⟨h3, b⟩
        simp [T_is_rising_L1, sp_is_integer, isIntIn, h3, h4]
        exact h2 e
      · simp [T_is_rising_L1, sp_is_integer, isIntIn, h3]
        exact h2 e
theorem p_is_rising : ∀ cs G R, sp_is_rising cs G R → T_is_rising (endR R) (cstart 5 cs) G := by
  intro cs G R h
  unfold sp_is_rising at h
  split at h
  · obtain ⟨ns, rfl, h⟩ := h
    unfold T_is_rising
    simp [cstart, isT]
    refine rising_loop trivial ns none none (fun e τ' => ?_) (fun e => ?_)
    · rw [e] at h
      exact .of h .rfl'
    · rw [e] at h
      exact .of h .rfl'
  · exact h.elim
theorem p_is_places : ∀ cs G R, sp_is_places cs G R → T_is_places (endR R) (cstart 2 cs) G := by
  intro cs G R h
  unfold sp_is_places at h
  split at h
  · obtain ⟨ns, rfl, h1, h2, h⟩ := h
    unfold T_is_places
    simp [cstart]
    unfold sp_is_rising
    have : 0 < ns.length := List.length_pos_iff.mpr h1
    refine ⟨ns, rfl, ?_⟩
    rw [h2]
    refine .inr ⟨rfl, ?_⟩
    simp [this]
    exact .of h .rfl'
  · exact h.elim
abbrev seenK (l : List Nat) : List (NestedKey × CV) := l.map fun b : Nat => (.num (b : Int), .a (.bl true))
theorem seen_out {l : List Nat} {b : Nat} (h : b ∉ l) : ∀ q ∈ seenK l, q.1 ≠ .num (b : Int) := by
  intro q hq e
  obtain ⟨c, hc, rfl⟩ := List.mem_map.mp hq
  injection e with e
  exact h (by rw [show b = c by omega]; exact hc)
theorem sound_loop {D : CEnds} {t0 : CV} {n : Nat} {G : CH} {p : Addr} {st : CH → Prop} (hst : ∀ G, st G) (hD : ∀ τ' l, D.nx τ' (cup G p (.dic false (seenK l)))) : ∀ (r seen : List Nat) (o3 : Option CV), (seen ++ r).Nodup → (seen ++ r).length ≤ 100 → (∀ x ∈ r, 1 ≤ x ∧ x ≤ n) →
    forL (cgName 3) T_is_sound_row_L1 D st (r.map nC) [some t0, some (nC n), some (.a (.ref p)), o3] (cup G p (.dic false (seenK seen)))
  | [], seen, o3, _, _, _ => ⟨hst _, hD _ _⟩
  | b :: r, seen, o3, nd, hl, hr => by
    rw [List.map_cons]
    refine forL_step (hst _) fun K hK => ?_
    obtain ⟨h1, h2⟩ := hr b List.mem_cons_self
    have hb : b ∉ seen := fun z => (List.nodup_append.mp nd).2.2 _ z _ List.mem_cons_self rfl
    have e1 : (1 : Int) ≤ (b : Int) := by omega
    have e2 : (b : Int) ≤ (n : Int) := by omega
    have e3 : (seenK seen).length < sizeLine := by rw [List.length_map, sizeLine_eq]; simp at hl; omega
    have q : ∀ {G1 : CH}, G1 = cup G p (.dic false (seenK seen)) → G1 p = some (.dic false (seenK seen)) := fun e => by rw [e]; exact cup_same
    have q1 : ∀ {R : CVK}, InT [] false (nC b) (.a (.ref p)) (cup G p (.dic false (seenK seen))) R = R (.a (.bl false)) (cup G p (.dic false (seenK seen))) := by
      intro R
      rw [InT_dic cup_same (keyOf_i (i := (b : Int))) rfl, dval_out (seen_out hb)]
      rfl
    have q2 : ∀ {R : CH → Prop} {v : CV}, cSet (.a (.ref p)) (nC b) v (cup G p (.dic false (seenK seen))) R = R (cup G p (.dic false (seenK seen ++ [(.num (b : Int), v)]))) := by
      intro R v
      rw [cSet_dic cup_same (keyOf_i (i := (b : Int))) rfl, dput_out (seen_out hb), cup_cup]
      simp only [e3, true_and]
    simp [T_is_sound_row_L1, sp_is_integer, isIntIn, e1, e2, q1, q2]
    rw [hK]
    have ih := sound_loop (t0 := t0) hst hD r (seen ++ [b]) (some (nC b)) (by simpa using nd) (by simpa using hl) (fun x hx => hr x (List.mem_cons_of_mem _ hx))
    have es : seenK (seen ++ [b]) = seenK seen ++ [(.num (b : Int), .a (.bl true))] := by simp
    rw [es] at ih
    exact dnS.here ih
theorem p_is_sound_row : ∀ cs G R, sp_is_sound_row cs G R → T_is_sound_row (endR R) (cstart 4 cs) G := by
  intro cs G R h
  unfold sp_is_sound_row at h
  split at h
  · obtain ⟨r, n, rfl, rfl, hn, pr, h⟩ := h
    unfold T_is_sound_row
    simp [cstart, isT, pr.len]
    intro p hp
    refine sound_loop (seen := []) (fun _ => trivial) (fun τ' l => ?_) r _ pr.nd (by simp [pr.len, hn]) pr.rng
    exact .of h (Sub.new hp)
  · exact h.elim
theorem Ch.mem {k p : Nat} {l : List Nat} (h : Ch k p l) : ∀ x ∈ l, p ≤ x ∧ x < p + k := by
  induction h with
  | nil p => intro x hx; cases hx
  | keep h ih =>
    intro x hx
    rcases List.mem_cons.mp hx with e | hx
    · omega
    · have := ih x hx; omega
  | swap h ih => intro x hx; have := ih x hx; omega
theorem Ch.len {k p : Nat} {l : List Nat} (h : Ch k p l) : l.length ≤ k := by
  induction h with
  | nil p => simp
  | keep h ih => simp; omega
  | swap h ih => omega
theorem Ch.rising {n k p : Nat} {l : List Nat} (h : Ch k p l) : 1 ≤ p → p + k = n + 1 → ∀ o : Option Int, (∀ i, o = some i → i < p) → risingB 1 n o (l.map fun m : Nat => (m : Int)) = true := by
  induction h with
  | nil p => intros; rfl
  | @keep k p l h ih =>
    intro h1 h2 o ho
    rw [List.map_cons, risingB_cons]
    have e1 : (decide ((1 : Int) ≤ (p : Int)) && decide ((p : Int) ≤ (n : Int))) = true := by
      rw [decide_eq_true (by omega), decide_eq_true (by omega)]; rfl
    rw [e1, ih (by omega) (by omega) (some (p : Int)) (fun i e => by cases e; omega)]
    cases o with
    | none => rfl
    | some i =>
      have := ho i rfl
      simp [this]
  | swap h ih =>
    intro h1 h2 o ho
    exact ih (by omega) (by omega) o fun i e => by have := ho i e; omega
theorem sound_ch_loop {D : CEnds} {t0 t1 : CV} {G : CH} {st : CH → Prop} (hst : st G) (hD : ∀ τ', D.nx τ' G) {k p : Nat} {l : List Nat} (h : Ch k p l) : ∀ (b : Nat) (o3 : Option CV), b < p → (p - b - 1) % 2 = 0 →
    forL (cgName 3) T_is_sound_change_L1 D st ((l ++ [p + k]).map nC) [some t0, some t1, some (nC b), o3] G := by
  have step : ∀ (b x : Nat) (xs : List CV) (o3 : Option CV), b < x → (x - b - 1) % 2 = 0 → (∀ o3, forL (cgName 3) T_is_sound_change_L1 D st xs [some t0, some t1, some (nC x), o3] G) → forL (cgName 3) T_is_sound_change_L1 D st (nC x :: xs) [some t0, some t1, some (nC b), o3] G := by
    intro b x xs o3 h1 h2 ih
    refine forL_step hst fun K hK => ?_
    have e : ¬ ((x : Int) - (b : Int) - 1) % 2 = 1 := by omega
    simp [T_is_sound_change_L1, e]
    rw [hK]
    exact dnS.here (ih _)
  have last : ∀ (b x : Nat) (o3 : Option CV), b < x → (x - b - 1) % 2 = 0 → forL (cgName 3) T_is_sound_change_L1 D st [nC x] [some t0, some t1, some (nC b), o3] G := fun b x o3 h1 h2 => step b x [] o3 h1 h2 fun _ => ⟨hst, hD _⟩
  induction h with
  | nil p => intro b o3 h1 h2; exact last b p o3 h1 h2
  | @keep k p l h ih =>
    intro b o3 h1 h2
    rw [List.cons_append, List.map_cons]
    refine step b p _ o3 h1 h2 fun o3' => ?_
    have := ih p o3' (by omega) (by omega)
    rw [show p + 1 + k = p + (k + 1) by omega] at this
    exact this
  | @swap k p l h ih =>
    intro b o3 h1 h2
    have := ih b o3 (by omega) (by omega)
    rw [show p + 2 + k = p + (k + 2) by omega] at this
    exact this
theorem p_is_sound_change : ∀ cs G R, sp_is_sound_change cs G R → T_is_sound_change (endR R) (cstart 4 cs) G := by
  intro cs G R h
  unfold sp_is_sound_change at h
  split at h
  · obtain ⟨l, n, rfl, rfl, hn, ch, h⟩ := h
    unfold T_is_sound_change
    simp [cstart]
    unfold sp_is_rising
    refine ⟨l.map fun m : Nat => (m : Int), row_ints l, ?_⟩
    have hr := ch.rising (n := n) (by omega) (by omega) none (fun i e => by cases e)
    rw [hr]
    have hl := ch.len
    refine .inr ⟨rfl, ?_⟩
    refine ⟨by simp [sizeLine_eq]; omega, fun q hq => ?_⟩
    refine ⟨_, srcOf_ref cup_same, ?_⟩
    have e : (sSeq q (l.map nC ++ [.a (.int ((n : Int) + 1))])).items = (l ++ [1 + n]).map nC := by
      have e1 : ((n : Int) + 1) = ((1 + n : Nat) : Int) := by omega
      rw [sSeq_items, List.map_append, List.map_cons, List.map_nil, e1]
    rw [e]
    refine sound_ch_loop (G := cup G q (.lst (l.map nC ++ [.a (.int ((n : Int) + 1))]))) (st := fun G => CH.seq G q = some (l.map nC ++ [.a (.int ((n : Int) + 1))])) (by unfold CH.seq; rw [cup_same]) (fun τ' => ?_) ch 0 none (by omega) (by omega)
    exact .of h (Sub.new hq)
  · exact h.elim
theorem p_are_changes : ∀ cs G R, sp_are_changes cs G R → T_are_changes (endR R) (cstart 3 cs) G := by
  intro cs G R h
  unfold sp_are_changes at h
  split at h
  · obtain ⟨ls, n, rfl, rfl, hn, hne, hl, h⟩ := h
    unfold T_are_changes
    have e : (ls.map rowC).isEmpty = false := by cases ls with
      | nil => exact absurd rfl hne
      | cons => rfl
    have loop : ∀ (ls : List (List Nat)) (o : Option CV) (t0 : CV) (D : CEnds), (∀ τ', D.nx τ' G) → (∀ l ∈ ls, Ch n 1 l) → forL (cgName 2) T_are_changes_L1 D (fun _ => True) (ls.map rowC) [some t0, some (nC n), o] G := by
      intro ls
      induction ls with
      | nil => intro o t0 D hD _; exact ⟨trivial, hD _⟩
      | cons l ls ih =>
        intro o t0 D hD hl
        rw [List.map_cons]
        refine forL_step trivial fun K hK => ?_
        simp [T_are_changes_L1]
        unfold sp_is_sound_change
        refine ⟨l, n, rfl, rfl, hn, hl l List.mem_cons_self, ?_⟩
        simp
        rw [hK]
        exact dnS.here (ih _ _ _ hD fun x hx => hl x (List.mem_cons_of_mem _ hx))
    simp [cstart, isT, hne]
    exact loop ls none _ _ (fun τ' => .of h .rfl') hl
  · exact h.elim
theorem cmGo_keep {ch : List Nat} {p : Nat} (h : p ∈ ch) : ∀ k, cmGo ch (k + 1) p = p :: cmGo ch k (p + 1)
  | 0 => rfl
  | k + 1 => by rw [cmGo, if_pos h]
theorem cmGo_swap {ch : List Nat} {p k : Nat} (h : p ∉ ch) : cmGo ch (k + 2) p = (p + 1) :: p :: cmGo ch k (p + 2) := by rw [cmGo, if_neg h]
theorem set_mid {α : Type} {a : List α} {x v : α} {b : List α} : (a ++ x :: b).set a.length v = a ++ v :: b := by
  rw [List.set_append_right _ _ (Nat.le_refl _)]
  simp
theorem cm_loop {D : CEnds} {G : CH} {q : Addr} {n : Nat} {ch : List Nat} (hn : n ≤ 100) {k p : Nat} {l : List Nat} (h : Ch k p l) : 1 ≤ p → p + k = n + 1 → (∀ x, p ≤ x → (x ∈ ch ↔ x ∈ l)) → ∀ (done : List Nat) (f : Nat), done.length = p - 1 → k < f →
    (∀ τ', D.nx ([some (rowC ch), some (nC n), some (.a (.ref q)), τ']) (cup G q (.lst ((done ++ cmGo ch k p).map nC)))) →
    whL (cTest (cOp cLe (cVar 3) (cVar 1))) T_change_move_L1 D f [some (rowC ch), some (nC n), some (.a (.ref q)), some (nC p)] (cup G q (.lst ((done ++ List.range' p k).map nC))) := by
  induction h with
  | nil p =>
    intro h1 h2 hm done f hd hf hD
    obtain ⟨f, rfl⟩ : ∃ g, f = g + 1 := ⟨f - 1, by omega⟩
    refine whL_step fun K hK => ?_
    have e : ¬ ((p : Int) ≤ (n : Int)) := by omega
    simp [e]
    have := hD (some (nC p))
    simpa [cmGo] using this
  | @keep k p l h ih =>
    intro h1 h2 hm done f hd hf hD
    obtain ⟨f, rfl⟩ : ∃ g, f = g + 1 := ⟨f - 1, by omega⟩
    refine whL_step fun K hK => ?_
    have e : ((p : Int) ≤ (n : Int)) := by omega
    have hp : p ∈ ch := (hm p (Nat.le_refl _)).mpr List.mem_cons_self
    have q1 : ∀ {G : CH} {R : CVK}, R (.a (.bl true)) G → InT [] false (nC p) (rowC ch) G R := fun {G R} h => InT_row (by rw [decide_eq_true hp]; exact h)
    simp [e, T_change_move_L1]
    refine q1 ?_
    simp
    rw [hK]
    have ih := ih (by omega) (by omega) (fun x hx => by rw [hm x (by omega)]; simp; omega) (done ++ [p]) f (by simp; omega) (by omega)
    rw [cmGo_keep hp] at hD
    have e1 : done ++ List.range' p (k + 1) = done ++ [p] ++ List.range' (p + 1) k := by rw [List.range'_succ]; simp
    have ih := ih (fun τ' => by simpa using hD τ')
    have e2 : nC (p + 1) = .a (.int ((p : Int) + 1)) := by show CV.a (V.int ((p + 1 : Nat) : Int)) = _; congr 2
    rw [e2, ← e1] at ih
    simp at ih ⊢
    exact dnS.here ih
  | @swap k p l h ih =>
    intro h1 h2 hm done f hd hf hD
    obtain ⟨f, rfl⟩ : ∃ g, f = g + 1 := ⟨f - 1, by omega⟩
    refine whL_step fun K hK => ?_
    have e : ((p : Int) ≤ (n : Int)) := by omega
    have hp : p ∉ ch := fun z => by
      have := h.mem p ((hm p (Nat.le_refl _)).mp z)
      omega
    have q1 : ∀ {G : CH} {R : CVK}, R (.a (.bl false)) G → InT [] false (nC p) (rowC ch) G R := fun {G R} h => InT_row (by rw [decide_eq_false hp]; exact h)
    simp [e, T_change_move_L1]
    refine q1 ?_
    have hl : (done.map nC).length = p - 1 := by rw [List.length_map]; exact hd
    have e1 : (done ++ List.range' p (k + 2)).map nC = done.map nC ++ nC p :: nC (p + 1) :: (List.range' (p + 2) k).map nC := by
      rw [List.range'_succ, List.range'_succ]; simp
    rw [← List.map_append, e1]
    have s1 : ∀ {v : CV} {R : CH → Prop}, cSet (.a (.ref q)) (.a (.int ((p : Int) - 1))) v (cup G q (.lst (done.map nC ++ nC p :: nC (p + 1) :: (List.range' (p + 2) k).map nC))) R = R (cup G q (.lst (done.map nC ++ v :: nC (p + 1) :: (List.range' (p + 2) k).map nC))) := by
      intro v R
      rw [cSet_l cup_same, ixN_pred h1 (by simp; omega)]
      dsimp only
      rw [← hl, set_mid, cup_cup]
    have s2 : ∀ {v w : CV} {R : CH → Prop}, cSet (.a (.ref q)) (nC p) v (cup G q (.lst (done.map nC ++ w :: nC (p + 1) :: (List.range' (p + 2) k).map nC))) R = R (cup G q (.lst (done.map nC ++ w :: v :: (List.range' (p + 2) k).map nC))) := by
      intro v w R
      have e3 : done.map nC ++ w :: nC (p + 1) :: (List.range' (p + 2) k).map nC = (done.map nC ++ [w]) ++ nC (p + 1) :: (List.range' (p + 2) k).map nC := by simp
      rw [cSet_l cup_same, ixN_at (by simp; omega)]
      dsimp only
      rw [e3, show p = (done.map nC ++ [w]).length by rw [List.length_append, hl, List.length_singleton]; omega, set_mid, cup_cup]
      simp
    simp only [cgSub_e, cVar_e, cC_e, cOp_e]
    simp [s1, s2]
    rw [hK]
    have ih := ih (by omega) (by omega) (fun x hx => by rw [hm x (by omega)]) (done ++ [p + 1, p]) f (by simp; omega) (by omega)
    rw [cmGo_swap hp] at hD
    have ih := ih (fun τ' => by simpa using hD τ')
    have e2 : nC (p + 2) = .a (.int ((p : Int) + 2)) := by show CV.a (V.int ((p + 2 : Nat) : Int)) = _; congr 2
    rw [e2] at ih
    simp at ih ⊢
    exact dnS.here ih
theorem p_change_move : ∀ cs G R, sp_change_move cs G R → T_change_move (endR R) (cstart 4 cs) G := by
  intro cs G R h
  unfold sp_change_move at h
  split at h
  · obtain ⟨l, n, rfl, rfl, hn, ch, h⟩ := h
    unfold T_change_move
    simp [cstart]
    refine ⟨rgOk_n hn, fun q hq => ⟨n + 1, ?_⟩⟩
    rw [rg_row]
    have := cm_loop (D := ⟨cRet (cCB cTuple (cCons (cVar 2) cNil)) (endR R), (endR R).rt, (endR R).bk, (endR R).ct⟩) (G := G) (q := q) (n := n) (ch := l) hn ch (Nat.le_refl _) (by omega) (fun _ _ => Iff.rfl) [] (n + 1) rfl (Nat.lt_succ_self _) (fun τ' => by
      simp [cTuple_l]
      exact .of h (Sub.new hq))
    simp only [List.nil_append] at this
    exact this
  · exact h.elim
theorem letters_mem {c : Nat} (h : Lt c) : c ∈ ("abcdefghijklmnopqrstuvwxyz" : Str).cps.toList := by
  obtain ⟨h1, h2⟩ := h
  have : ∀ n ∈ List.range' 97 26, n ∈ ("abcdefghijklmnopqrstuvwxyz" : Str).cps.toList := by decide +kernel
  exact this c (by rw [List.mem_range'_1]; omega)
theorem InT_sign {own : Tab} {neg : Bool} {c : Nat} {z : Str} {G : CH} {R : CVK} (h : R (.a (.bl (xr neg (decide (c ∈ z.cps.toList))))) G) : InT own neg (.a (.str (ltS c))) (.a (.str z)) G R := ⟨c, rfl, h⟩
theorem p_is_letter : ∀ cs G R, sp_is_letter cs G R → T_is_letter (endR R) (cstart 1 cs) G := by
  intro cs G R h
  unfold sp_is_letter at h
  split at h
  · obtain ⟨c, rfl, hc, h⟩ := h
    unfold T_is_letter
    have e : (ltS c).length = 1 := rfl
    simp [cstart, isT, e]
    refine ⟨by rw [sizeLine_eq]; decide, ?_⟩
    refine InT_sign ?_
    rw [decide_eq_true (letters_mem hc)]
    exact .of h .rfl'
  · exact h.elim
/-- cmGo's items: k of them, apart, from p on -/
theorem cmGo_ok {ch : List Nat} {k p : Nat} {l : List Nat} (h : Ch k p l) : (∀ x, p ≤ x → (x ∈ ch ↔ x ∈ l)) → (cmGo ch k p).length = k ∧ (cmGo ch k p).Nodup ∧ ∀ x ∈ cmGo ch k p, p ≤ x ∧ x < p + k := by
  induction h with
  | nil p => intro _; exact ⟨rfl, .nil, fun x hx => by cases hx⟩
  | @keep k p l h ih =>
    intro hm
    have hp : p ∈ ch := (hm p (Nat.le_refl _)).mpr List.mem_cons_self
    obtain ⟨h1, h2, h3⟩ := ih fun x hx => by rw [hm x (by omega)]; simp; omega
    rw [cmGo_keep hp]
    refine ⟨by simp [h1], List.nodup_cons.mpr ⟨fun z => by have := h3 p z; omega, h2⟩, fun x hx => ?_⟩
    rcases List.mem_cons.mp hx with e | hx
    · omega
    · have := h3 x hx; omega
  | @swap k p l h ih =>
    intro hm
    have hp : p ∉ ch := fun z => by
      have := h.mem p ((hm p (Nat.le_refl _)).mp z)
      omega
    obtain ⟨h1, h2, h3⟩ := ih fun x hx => by rw [hm x (by omega)]
    rw [cmGo_swap hp]
    refine ⟨by simp [h1], List.nodup_cons.mpr ⟨fun z => ?_, List.nodup_cons.mpr ⟨fun z => by have := h3 p z; omega, h2⟩⟩, fun x hx => ?_⟩
    · rcases List.mem_cons.mp z with e | z
      · omega
      · have := h3 _ z; omega
    · rcases List.mem_cons.mp hx with e | hx
      · omega
      · rcases List.mem_cons.mp hx with e | hx
        · omega
        · have := h3 x hx; omega
theorem mv_perm {n : Nat} {l : List Nat} (h : Ch n 1 l) : Perm n (mvOf l n) := by
  obtain ⟨h1, h2, h3⟩ := cmGo_ok (ch := l) h fun _ _ => Iff.rfl
  exact ⟨h1, h2, fun x hx => by have := h3 x hx; omega⟩
theorem rounds_perm (n : Nat) : Perm n (List.range' 1 n) := ⟨by simp, List.nodup_range', fun x hx => by rw [List.mem_range'_1] at hx; omega⟩
theorem getD_mem {r : List Nat} {i : Nat} (h : i < r.length) : r.getD i 0 ∈ r := by
  rw [getD_at h]
  exact List.getElem_mem h
theorem times_perm {n : Nat} {r m : List Nat} (hr : Perm n r) (hm : Perm n m) : Perm n (timesR r m) := by
  have inj : ∀ a b, a ∈ m → b ∈ m → r.getD (a - 1) 0 = r.getD (b - 1) 0 → a = b := by
    intro a b ha hb e
    obtain ⟨a1, a2⟩ := hm.rng a ha
    obtain ⟨b1, b2⟩ := hm.rng b hb
    have la : a - 1 < r.length := by rw [hr.len]; omega
    have lb : b - 1 < r.length := by rw [hr.len]; omega
    rw [getD_at la, getD_at lb] at e
    have := (List.getElem_inj hr.nd).mp e
    omega
  refine ⟨by rw [timesR_len, hm.len], ?_, fun x hx => ?_⟩
  · unfold timesR
    have : ∀ l : List Nat, (∀ x ∈ l, x ∈ m) → l.Nodup → (l.map fun p => r.getD (p - 1) 0).Nodup := by
      intro l
      induction l with
      | nil => intro _ _; exact .nil
      | cons x l ih =>
        intro h nd
        obtain ⟨n1, n2⟩ := List.nodup_cons.mp nd
        rw [List.map_cons]
        refine List.nodup_cons.mpr ⟨fun z => ?_, ih (fun y hy => h y (List.mem_cons_of_mem _ hy)) n2⟩
        obtain ⟨y, hy, e⟩ := List.mem_map.mp z
        have := inj y x (h y (List.mem_cons_of_mem _ hy)) (h x List.mem_cons_self) e
        subst this
        exact n1 hy
    exact this m (fun _ h => h) hm.nd
  · obtain ⟨p, hp, e⟩ := List.mem_map.mp hx
    obtain ⟨h1, h2⟩ := hm.rng p hp
    rw [← e]
    exact hr.rng _ (getD_mem (by rw [hr.len]; omega))
theorem times_get {r m : List Nat} {i : Nat} (h : i < m.length) : (timesR r m).getD i 0 = r.getD (m.getD i 0 - 1) 0 := by
  rw [getD_at (by rw [timesR_len]; exact h), getD_at h]
  unfold timesR
  rw [List.getElem_map]
theorem times_assoc {r s t : List Nat} (h : ∀ p ∈ t, 1 ≤ p ∧ p ≤ s.length) : timesR (timesR r s) t = timesR r (timesR s t) := by
  unfold timesR
  rw [List.map_map]
  refine List.map_congr_left fun p hp => ?_
  obtain ⟨h1, h2⟩ := h p hp
  show (timesR r s).getD (p - 1) 0 = r.getD (s.getD (p - 1) 0 - 1) 0
  exact times_get (by omega)
theorem times_rounds {n : Nat} {m : List Nat} (h : ∀ p ∈ m, 1 ≤ p ∧ p ≤ n) : timesR (List.range' 1 n) m = m := by
  unfold timesR
  have : ∀ p ∈ m, (fun p => (List.range' 1 n).getD (p - 1) 0) p = p := by
    intro p hp
    obtain ⟨h1, h2⟩ := h p hp
    show (List.range' 1 n).getD (p - 1) 0 = p
    rw [getD_at (by simp; omega)]
    simp
    omega
  rw [List.map_congr_left this]
  simp
theorem times_to_rounds {n : Nat} {r : List Nat} (h : Perm n r) : timesR r (List.range' 1 n) = r := by
  have hl : (timesR r (List.range' 1 n)).length = r.length := by rw [timesR_len, h.len]; simp
  refine List.ext_getElem hl fun i h1 h2 => ?_
  have hi : i < n := by rw [← h.len]; exact h2
  have e := times_get (r := r) (m := List.range' 1 n) (i := i) (by simpa using hi)
  rw [getD_at h1] at e
  have e3 : (List.range' 1 n).getD i 0 = i + 1 := by
    rw [getD_at (by simpa using hi)]
    simp
    omega
  rw [e, e3, show i + 1 - 1 = i by omega, getD_at h2]
/-- a row on the left may be taken off -/
theorem times_inj {n : Nat} {s r t : List Nat} (hs : Perm n s) (hr : Perm n r) (ht : Perm n t) (h : timesR s r = timesR s t) : r = t := by
  refine List.ext_getElem (by rw [hr.len, ht.len]) fun i h1 h2 => ?_
  have e1 := times_get (r := s) (m := r) (i := i) h1
  have e2 := times_get (r := s) (m := t) (i := i) h2
  rw [h, e2, getD_at h1, getD_at h2] at e1
  obtain ⟨a1, a2⟩ := hr.rng _ (List.getElem_mem h1)
  obtain ⟨b1, b2⟩ := ht.rng _ (List.getElem_mem h2)
  have l1 : r[i] - 1 < s.length := by rw [hs.len]; omega
  have l2 : t[i] - 1 < s.length := by rw [hs.len]; omega
  rw [getD_at l1, getD_at l2] at e1
  have := (List.getElem_inj hs.nd).mp e1
  omega
def sp_is_row : CSp := fun cs G R => match cs with
  | [x, .a (.int i)] => ∃ (r : List Nat) (n : Nat), x = rowC r ∧ i = n ∧ 3 ≤ n ∧ n ≤ 8 ∧ Perm n r ∧ R (.a (.bl true)) G
  | _ => False
def sp_any_row : CSp := fun cs G R => match cs with
  | [x] => ∃ (r : List Nat) (n : Nat), x = rowC r ∧ 3 ≤ n ∧ n ≤ 8 ∧ Perm n r ∧ R (rowC r) G
  | _ => False
def sp_two_rows : CSp := fun cs G R => match cs with
  | [x, y] => ∃ (r s : List Nat) (n : Nat), x = rowC r ∧ y = rowC s ∧ 3 ≤ n ∧ n ≤ 8 ∧ Perm n r ∧ Perm n s ∧ R (.tup [rowC r, rowC s]) G
  | _ => False
def sp_renamed : CSp := fun cs G R => match cs with
  | [x, y] => ∃ (r s : List Nat) (n : Nat), x = rowC r ∧ y = rowC s ∧ 3 ≤ n ∧ n ≤ 8 ∧ Perm n r ∧ Perm n s ∧ R (rowC (timesR s r)) G
  | _ => False
def sp_place : CSp := fun cs G R => match cs with
  | [x, y] => ∃ (r : List Nat) (n b j : Nat), x = rowC r ∧ y = nC b ∧ 3 ≤ n ∧ n ≤ 8 ∧ Perm n r ∧ r[j]? = some b ∧ R (nC (j + 1)) G
  | _ => False
/-- a tuple, or a list's items as a tuple -/
def rowAt (G : CH) (x : CV) (r : List Nat) : Prop := x = rowC r ∨ ∃ p, x = .a (.ref p) ∧ G p = some (.lst (r.map nC))
def sp_told_row : CSp := fun cs G R => match cs with
  | [x, .a (.int i)] => ∃ (r : List Nat) (n : Nat), rowAt G x r ∧ i = n ∧ n ≤ 100 ∧ Perm n r ∧ R (rowC r) G
  | _ => False
def posIn {α : Type} [DecidableEq α] (r : α) : List α → Nat
  | [] => 0
  | x :: l => if x = r then 0 else posIn r l + 1
/-- the first row that comes again: where it was, where it comes -/
def spotsGo {α : Type} [DecidableEq α] (prev : List α) : List α → Option (Nat × Nat)
  | [] => none
  | r :: rs => if r ∈ prev then some (posIn r prev, prev.length) else spotsGo (prev ++ [r]) rs
def spotsC : Option (Nat × Nat) → CV
  | none => .a .non
  | some q => .tup [nC q.1, nC q.2]
abbrev rowsC (rs : List (List Nat)) : CV := .tup (rs.map rowC)
def sp_spots_of : CSp := fun cs G R => match cs with
  | [x] => ∃ rs : List (List Nat), x = rowsC rs ∧ rs.length ≤ 100000 ∧ R (spotsC (spotsGo [] rs)) G
  | _ => False
/-- the rows of a lead, its end -/
def leadRows (n : Nat) : List Nat → List (List Nat) → List (List Nat) × List Nat
  | r, [] => ([], r)
  | r, l :: ls => (r :: (leadRows n (timesR r (mvOf l n)) ls).1, (leadRows n (timesR r (mvOf l n)) ls).2)
def sp_rows_through : CSp := fun cs G R => match cs with
  | [.a (.int i), x] => ∃ (ls : List (List Nat)) (n : Nat), x = rowsC ls ∧ i = n ∧ n ≤ 100 ∧ ls.length ≤ 1000 ∧ (∀ l ∈ ls, Ch n 1 l) ∧ R (.tup [rowsC (leadRows n (List.range' 1 n) ls).1, rowC (leadRows n (List.range' 1 n) ls).2]) G
  | _ => False
def sp_check_plain : CSp := fun cs G R => match cs with
  | [x, .a (.int i)] => ∃ (ls : List (List Nat)) (n : Nat), x = rowsC ls ∧ i = n ∧ n ≤ 100 ∧ 1 ≤ ls.length ∧ ls.length ≤ 32 ∧ (∀ l ∈ ls, Ch n 1 l) ∧ R (.a .non) G
  | _ => False
/-- a call: letter, place, changes -/
structure Cal where
  letter : Nat
  at_ : Nat
  many : List (List Nat)
abbrev calC (c : Cal) : CV := .tup [.a (.str (ltS c.letter)), nC c.at_, rowsC c.many]
structure CalOk (n size : Nat) (c : Cal) : Prop where
  lt : Lt c.letter
  np : c.letter ≠ 112
  ne : c.many ≠ []
  le : c.at_ + c.many.length ≤ size
  ch : ∀ l ∈ c.many, Ch n 1 l
def sp_is_call : CSp := fun cs G R => match cs with
  | [x, .a (.int i), .a (.int j)] => ∃ (c : Cal) (n size : Nat), x = calC c ∧ i = n ∧ j = size ∧ n ≤ 100 ∧ size ≤ 1000 ∧ CalOk n size c ∧ R (.a (.bl true)) G
  | _ => False
def sp_check_calls : CSp := fun cs G R => match cs with
  | [x, .a (.int i), .a (.int j)] => ∃ (cs : List Cal) (n size : Nat), x = .tup (cs.map calC) ∧ i = n ∧ j = size ∧ n ≤ 100 ∧ size ≤ 1000 ∧ cs.length ≤ 5 ∧ (∀ c ∈ cs, CalOk n size c) ∧ (cs.map (·.letter)).Nodup ∧ R (.a .non) G
  | _ => False
/-- is_row -/
def T_is_row : CTS := (cRet (cAndV (cCall sp_is_integer [] (cCons (cVar 1) (cCons (cC (.int 3)) (cCons (cC (.int 8)) cNil)))) (cCall sp_is_sound_row [] (cCons (cCall sp_flat [] (cCons (cVar 0) cNil)) (cCons (cVar 1) cNil)))))
/-- any_row -/
def T_any_row : CTS := (cSeq (cSetN 1 (cCall sp_flat [] (cCons (cVar 0) cNil)))
    (cSeq (cIfS (cOr (cNot (cTruth (cIsi ["tuple"] (cVar 1)))) (cNot (cTruth (cCall sp_is_row [] (cCons (cVar 1) (cCons (cCB (cLen []) (cCons (cVar 1) cNil)) cNil)))))) cNever cNext)
    (cRet (cVar 1))))
/-- two_rows -/
def T_two_rows : CTS := (cSeq (cSetN 2 (cCall sp_any_row [] (cCons (cVar 0) cNil)))
    (cSeq (cSetN 3 (cCall sp_any_row [] (cCons (cVar 1) cNil)))
    (cSeq (cIfS (cTest (cOp cNe (cCB (cLen []) (cCons (cVar 2) cNil)) (cCB (cLen []) (cCons (cVar 3) cNil)))) cNever cNext)
    (cRet (cTup (cCons (cVar 2) (cCons (cVar 3) cNil)))))))
/-- renamed -/
def T_renamed : CTS := (cSeq (cAsg (cCall sp_two_rows [] (cCons (cVar 0) (cCons (cVar 1) cNil))) (cgTup 2 (cgCons (cgName 2) (cgCons (cgName 3) cgNil))))
    (cRet (cCall sp_times [] (cCons (cVar 3) (cCons (cVar 2) cNil)))))
/-- place -/
def T_place : CTS := (cSeq (cSetN 2 (cCall sp_any_row [] (cCons (cVar 0) cNil)))
    (cSeq (cIfS (cNot (cTruth (cCall sp_is_integer [] (cCons (cVar 1) (cCons (cC (.int 1)) (cCons (cCB (cLen []) (cCons (cVar 2) cNil)) cNil)))))) cNever cNext)
    (cRet (cCall sp_place_in [] (cCons (cVar 2) (cCons (cVar 1) cNil))))))
/-- told_row -/
def T_told_row : CTS := (cSeq (cSetN 2 (cCall sp_flat [] (cCons (cVar 0) cNil)))
    (cSeq (cIfS (cNot (cTruth (cCall sp_is_sound_row [] (cCons (cVar 2) (cCons (cVar 1) cNil))))) cNever cNext)
    (cRet (cVar 2))))
def T_spots_of_L1 : CTS := (cSeq (cIfS (cTest (cOp (InT [] false) (cVar 3) (cVar 1))) (cRet (cTup (cCons (cOp (cIx []) (cVar 1) (cVar 3)) (cCons (cVar 2) cNil)))) cNext)
    (cAsg (cVar 2) (cgSub (cVar 1) (cVar 3) cSet)))
/-- spots_of -/
def T_spots_of : CTS := (cSeq (cSetN 1 (cNewD true))
    (cSeq (cFor (ciEnum (cVar 0)) (cgTup 2 (cgCons (cgName 2) (cgCons (cgName 3) cgNil))) T_spots_of_L1)
    (cRet (cC .non))))
def T_rows_through_L1 : CTS := (cSeq (cDrop (cBM ["list"] kAppend (cVar 2) (cCons (cVar 3) cNil)))
    (cSetN 3 (cCall sp_times [] (cCons (cVar 3) (cCons (cCall sp_change_move [] (cCons (cVar 4) (cCons (cVar 0) cNil))) cNil)))))
/-- rows_through -/
def T_rows_through : CTS := (cSeq (cSetN 2 (cLst cNil))
    (cSeq (cSetN 3 (cCall sp_first_row [] (cCons (cVar 0) cNil)))
    (cSeq (cFor (ciVal (cVar 1)) (cgName 4) T_rows_through_L1)
    (cRet (cTup (cCons (cCB cTuple (cCons (cVar 2) cNil)) (cCons (cVar 3) cNil)))))))
def T_check_plain_L1 : CTS := (cIfS (cNot (cTruth (cCall sp_is_sound_change [] (cCons (cVar 3) (cCons (cVar 1) cNil))))) cNever cNext)
/-- check_plain -/
def T_check_plain : CTS := (cSeq (cIfS (cOr (cNot (cTruth (cIsi ["tuple"] (cVar 0)))) (cNot (cTest (cChain cLe cLe (cC (.int 1)) (cCB (cLen []) (cCons (cVar 0) cNil)) (cC (.int 32)))))) cNever cNext)
    (cFor (ciEnum (cVar 0)) (cgTup 2 (cgCons (cgName 2) (cgCons (cgName 3) cgNil))) T_check_plain_L1))
/-- is_call -/
def T_is_call : CTS := (cSeq (cIfS (cOr (cNot (cTruth (cIsi ["tuple"] (cVar 0)))) (cTest (cOp cNe (cCB (cLen []) (cCons (cVar 0) cNil)) (cC (.int 3))))) (cRet (cC (.bl false))) cNext)
    (cSeq (cAsg (cVar 0) (cgTup 3 (cgCons (cgName 3) (cgCons (cgName 4) (cgCons (cgName 5) cgNil)))))
    (cSeq (cIfS (cOr (cNot (cTruth (cCall sp_is_letter [] (cCons (cVar 3) cNil)))) (cOr (cTest (cOp cEq (cVar 3) (cC (.str "p")))) (cNot (cTruth (cCall sp_is_integer [] (cCons (cVar 4) (cCons (cC (.int 0)) (cCons (cVar 2) cNil)))))))) (cRet (cC (.bl false))) cNext)
    (cRet (cAndV (cCall sp_are_changes [] (cCons (cVar 5) (cCons (cVar 1) cNil))) (cOp cLe (cOp cAdd (cVar 4) (cCB (cLen []) (cCons (cVar 5) cNil))) (cVar 2)))))))
def T_check_calls_L1 : CTS := (cIfS (cNot (cTruth (cCall sp_is_call [] (cCons (cVar 5) (cCons (cVar 1) (cCons (cVar 2) cNil)))))) cNever cNext)
def T_check_calls_L2 : CTS := (cSeq (cIfS (cTest (cOp (InT [] false) (cVar 6) (cVar 3))) cNever cNext)
    (cAsg (cOp cAdd (cVar 7) (cCB (cLen []) (cCons (cVar 8) cNil))) (cgSub (cVar 3) (cVar 6) cSet)))
/-- check_calls -/
def T_check_calls : CTS := (cSeq (cIfS (cNot (cTruth (cIsi ["tuple"] (cVar 0)))) cNever cNext)
    (cSeq (cFor (ciEnum (cVar 0)) (cgTup 2 (cgCons (cgName 4) (cgCons (cgName 5) cgNil))) T_check_calls_L1)
    (cSeq (cIfS (cTest (cOp cGt (cCB (cLen []) (cCons (cVar 0) cNil)) (cC (.int 5)))) cNever cNext)
    (cSeq (cSetN 3 (cNewD false))
    (cFor (ciVal (cVar 0)) (cgTup 3 (cgCons (cgName 6) (cgCons (cgName 7) (cgCons (cgName 8) cgNil)))) T_check_calls_L2)))))
theorem p_is_row : ∀ cs G R, sp_is_row cs G R → T_is_row (endR R) (cstart 2 cs) G := by
  intro cs G R h
  unfold sp_is_row at h
  split at h
  · obtain ⟨r, n, rfl, rfl, h3, h8, pr, h⟩ := h
    unfold T_is_row
    have e1 : (3 : Int) ≤ (n : Int) := by omega
    have e2 : (n : Int) ≤ 8 := by omega
    simp [cstart, sp_is_integer, isIntIn, e1, e2, sp_flat]
    unfold sp_is_sound_row
    exact ⟨r, n, rfl, rfl, by omega, pr, .of h .rfl'⟩
  · exact h.elim
theorem p_any_row : ∀ cs G R, sp_any_row cs G R → T_any_row (endR R) (cstart 2 cs) G := by
  intro cs G R h
  unfold sp_any_row at h
  split at h
  · obtain ⟨r, n, rfl, h3, h8, pr, h⟩ := h
    unfold T_any_row
    simp [cstart, sp_flat, isT]
    unfold sp_is_row
    refine ⟨r, n, rfl, by rw [pr.len], h3, h8, pr, ?_⟩
    simp
    exact .of h .rfl'
  · exact h.elim
theorem sp_any_row_i {r : List Nat} {n : Nat} {G : CH} {R : CVK} (h3 : 3 ≤ n) (h8 : n ≤ 8) (pr : Perm n r) (h : R (rowC r) G) : sp_any_row [rowC r] G R := ⟨r, n, rfl, h3, h8, pr, h⟩
theorem p_two_rows : ∀ cs G R, sp_two_rows cs G R → T_two_rows (endR R) (cstart 4 cs) G := by
  intro cs G R h
  unfold sp_two_rows at h
  split at h
  · obtain ⟨r, s, n, rfl, rfl, h3, h8, pr, ps, h⟩ := h
    unfold T_two_rows
    simp [cstart]
    refine sp_any_row_i h3 h8 pr ?_
    refine sp_any_row_i h3 h8 ps ?_
    simp [pr.len, ps.len]
    exact ⟨by rw [sizeLine_eq]; decide, .of h .rfl'⟩
  · exact h.elim
theorem Perm.r100 {n : Nat} {r s : List Nat} (pr : Perm n r) (ps : Perm n s) : ∀ p ∈ r, 1 ≤ p ∧ p ≤ s.length := fun p hp => by
  have := pr.rng p hp
  rw [ps.len]
  exact this
theorem p_renamed : ∀ cs G R, sp_renamed cs G R → T_renamed (endR R) (cstart 4 cs) G := by
  intro cs G R h
  unfold sp_renamed at h
  split at h
  · obtain ⟨r, s, n, rfl, rfl, h3, h8, pr, ps, h⟩ := h
    unfold T_renamed
    simp [cstart]
    unfold sp_two_rows
    refine ⟨r, s, n, rfl, rfl, h3, h8, pr, ps, ?_⟩
    simp
    unfold sp_times
    exact ⟨s, r, rfl, rfl, by rw [pr.len]; omega, pr.r100 ps, .of h .rfl'⟩
  · exact h.elim
theorem p_place : ∀ cs G R, sp_place cs G R → T_place (endR R) (cstart 3 cs) G := by
  intro cs G R h
  unfold sp_place at h
  split at h
  · obtain ⟨r, n, b, j, rfl, rfl, h3, h8, pr, e, h⟩ := h
    unfold T_place
    simp [cstart]
    unfold sp_any_row
    refine ⟨r, n, rfl, h3, h8, pr, ?_⟩
    obtain ⟨b1, b2⟩ := pr.rng b (List.mem_of_getElem? e)
    have e1 : (1 : Int) ≤ (b : Int) := by omega
    have e2 : (b : Int) ≤ (n : Int) := by omega
    simp [sp_is_integer, isIntIn, e1, e2, pr.len]
    unfold sp_place_in
    exact ⟨r, b, j, rfl, rfl, e, pr.nd, .of h .rfl'⟩
  · exact h.elim
theorem p_told_row : ∀ cs G R, sp_told_row cs G R → T_told_row (endR R) (cstart 3 cs) G := by
  intro cs G R h
  unfold sp_told_row at h
  split at h
  · obtain ⟨r, n, hx, rfl, hn, pr, h⟩ := h
    unfold T_told_row
    rcases hx with rfl | ⟨p, rfl, e⟩
    · simp [cstart, sp_flat]
      unfold sp_is_sound_row
      refine ⟨r, n, rfl, rfl, hn, pr, ?_⟩
      simp
      exact .of h .rfl'
    · simp [cstart, sp_flat, e]
      unfold sp_is_sound_row
      refine ⟨r, n, rfl, rfl, hn, pr, ?_⟩
      simp
      exact .of h .rfl'
  · exact h.elim
theorem okK_row {r : List Nat} : okK true (rowK r) = true := by
  have h2 : ∀ l : List Nat, NestedKey.depthAll (l.map fun n : Nat => NestedKey.num (n : Int)) = 0 := by
    intro l
    induction l with
    | nil => rfl
    | cons x l ih =>
      rw [List.map_cons]
      unfold NestedKey.depthAll
      rw [ih]
      rfl
  unfold okK rowK
  rw [show isTupK (NestedKey.tup (r.map fun n : Nat => NestedKey.num (n : Int))) = true from rfl]
  unfold NestedKey.depth
  rw [h2]
  rfl
theorem keyOf_row {r : List Nat} : keyOf (rowC r) = some (rowK r) := by rw [← nkV_rowK]; exact keyOf_nk _
/-- the rows met, with their places -/
def metK (l : List (List Nat)) (i : Nat) : List (NestedKey × CV) := (l.zipIdx i).map fun q => (rowK q.1, nC q.2)
theorem met_get {r : List Nat} : ∀ {l : List (List Nat)} {i : Nat}, r ∈ l → dval (metK l i) (rowK r) = some (nC (i + posIn r l))
  | x :: l, i, h => by
    unfold metK
    rw [List.zipIdx_cons, List.map_cons, dval_cons]
    by_cases e : x = r
    · subst e
      rw [if_pos rfl, posIn, if_pos rfl]
      rfl
    · rw [if_neg fun z => e (rowK_inj z)]
      have hm : r ∈ l := by
        rcases List.mem_cons.mp h with z | z
        · exact absurd z.symm e
        · exact z
      have := met_get (l := l) (i := i + 1) hm
      unfold metK at this
      rw [this, posIn, if_neg e]
      congr 2
      omega
theorem met_out {r : List Nat} {l : List (List Nat)} {i : Nat} (h : r ∉ l) : ∀ q ∈ metK l i, q.1 ≠ rowK r := by
  intro q hq e
  obtain ⟨⟨x, j⟩, hx, rfl⟩ := List.mem_map.mp hq
  have : x = r := rowK_inj e
  subst this
  exact h (List.fst_mem_of_mem_zipIdx hx)
theorem met_app {l : List (List Nat)} {r : List Nat} : metK (l ++ [r]) 0 = metK l 0 ++ [(rowK r, nC l.length)] := by
  unfold metK
  rw [List.zipIdx_append, List.map_append]
  simp
theorem met_len {l : List (List Nat)} {i : Nat} : (metK l i).length = l.length := by unfold metK; simp
theorem spots_loop {D : CEnds} {t0 : CV} {G : CH} {p : Addr} {R : CVK} (hr : D.rt = dnV R) (hp : G p = none) : ∀ (rs prev : List (List Nat)) (o2 o3 : Option CV), prev.length + rs.length ≤ 100000 →
    (spotsGo prev rs = none → ∀ τ' l, D.nx τ' (cup G p (.dic true l))) → (∀ q, spotsGo prev rs = some q → R (spotsC (some q)) G) →
    forL (cgTup 2 (cgCons (cgName 2) (cgCons (cgName 3) cgNil))) T_spots_of_L1 D (fun _ => True) (enumAt prev.length (rs.map rowC)) [some t0, some (.a (.ref p)), o2, o3] (cup G p (.dic true (metK prev 0)))
  | [], prev, o2, o3, hl, h1, h2 => ⟨trivial, h1 rfl _ _⟩
  | r :: rs, prev, o2, o3, hl, h1, h2 => by
    rw [List.map_cons, enumAt_cons]
    refine forL_step trivial fun K hK => ?_
    have e3 : (metK prev 0).length < sizeLine := by rw [met_len, sizeLine_eq]; simp at hl; omega
    by_cases hm : r ∈ prev
    · have e : spotsGo prev (r :: rs) = some (posIn r prev, prev.length) := by rw [spotsGo, if_pos hm]
      have q1 : ∀ {R : CVK}, InT [] false (rowC r) (.a (.ref p)) (cup G p (.dic true (metK prev 0))) R = R (.a (.bl true)) (cup G p (.dic true (metK prev 0))) := by
        intro R
        rw [InT_dic cup_same keyOf_row okK_row, met_get hm]
        rfl
      have q2 : ∀ {R : CVK}, R (nC (posIn r prev)) (cup G p (.dic true (metK prev 0))) → cIx [] (.a (.ref p)) (rowC r) (cup G p (.dic true (metK prev 0))) R := by
        intro R h
        rw [cIx_dic cup_same keyOf_row okK_row, met_get hm]
        exact ⟨_, rfl, by simpa using h⟩
      simp [T_spots_of_L1, q1]
      refine q2 ⟨by rw [sizeLine_eq]; decide, ?_⟩
      rw [hr]
      exact .of (h2 _ e) (Sub.new hp)
    · have e : spotsGo prev (r :: rs) = spotsGo (prev ++ [r]) rs := by rw [spotsGo, if_neg hm]
      have q1 : ∀ {R : CVK}, InT [] false (rowC r) (.a (.ref p)) (cup G p (.dic true (metK prev 0))) R = R (.a (.bl false)) (cup G p (.dic true (metK prev 0))) := by
        intro R
        rw [InT_dic cup_same keyOf_row okK_row, dval_out (met_out hm)]
        rfl
      have q2 : ∀ {R : CH → Prop} {v : CV}, cSet (.a (.ref p)) (rowC r) v (cup G p (.dic true (metK prev 0))) R = R (cup G p (.dic true (metK prev 0 ++ [(rowK r, v)]))) := by
        intro R v
        rw [cSet_dic cup_same keyOf_row okK_row, dput_out (met_out hm), cup_cup]
        simp only [e3, true_and]
      simp [T_spots_of_L1, q1, q2]
      rw [hK, ← met_app]
      rw [e] at h1 h2
      have ih := spots_loop (t0 := t0) (G := G) hr hp rs (prev ++ [r]) (some (nC prev.length)) (some (rowC r)) (by simp at hl ⊢; omega) h1 h2
      rw [List.length_append, List.length_singleton] at ih
      exact dnS.here ih
theorem p_spots_of : ∀ cs G R, sp_spots_of cs G R → T_spots_of (endR R) (cstart 4 cs) G := by
  intro cs G R h
  unfold sp_spots_of at h
  split at h
  · obtain ⟨rs, rfl, hl, h⟩ := h
    unfold T_spots_of
    simp [cstart]
    intro p hp
    rw [enumIt_at]
    refine spots_loop rfl hp rs [] none none (by simpa using hl) (fun e τ' l => ?_) (fun q e => ?_)
    · rw [e] at h
      exact .of h (Sub.new hp)
    · rw [e] at h
      exact h
  · exact h.elim
theorem sp_change_move_i {l : List Nat} {n : Nat} {G : CH} {R : CVK} (hn : n ≤ 100) (ch : Ch n 1 l) (h : R (rowC (mvOf l n)) G) : sp_change_move [rowC l, nC n] G R := ⟨l, n, rfl, rfl, hn, ch, h⟩
theorem sp_times_i {r m : List Nat} {G : CH} {R : CVK} (hm : m.length ≤ 100) (hp : ∀ p ∈ m, 1 ≤ p ∧ p ≤ r.length) (h : R (rowC (timesR r m)) G) : sp_times [rowC r, rowC m] G R := ⟨r, m, rfl, rfl, hm, hp, h⟩
theorem rows_loop {D : CEnds} {t0 t1 : CV} {G : CH} {p : Addr} {n : Nat} (hn : n ≤ 100) : ∀ (ls : List (List Nat)) (r : List Nat) (done : List (List Nat)) (o4 : Option CV), Perm n r → done.length + ls.length ≤ 1000 → (∀ l ∈ ls, Ch n 1 l) →
    (∀ o4, D.nx [some (nC n), some t1, some (.a (.ref p)), some (rowC (leadRows n r ls).2), o4] (cup G p (.lst ((done ++ (leadRows n r ls).1).map rowC)))) →
    forL (cgName 4) T_rows_through_L1 D (fun _ => True) (ls.map rowC) [some (nC n), some t1, some (.a (.ref p)), some (rowC r), o4] (cup G p (.lst (done.map rowC)))
  | [], r, done, o4, pr, hl, hc, hD => ⟨trivial, by have := hD o4; simpa [leadRows] using this⟩
  | l :: ls, r, done, o4, pr, hl, hc, hD => by
    rw [List.map_cons]
    refine forL_step trivial fun K hK => ?_
    have e1 : (done.map rowC).length < sizeLine := by rw [List.length_map, sizeLine_eq]; simp at hl; omega
    have ch := hc l List.mem_cons_self
    have pm := mv_perm ch
    simp only [T_rows_through_L1, cgName_e, cSeq_e, cDrop_e, cBM_e, cVar_e, cCons_e, cNil_e, cSetN_e, cCall_e]
    simp [bty_l (cup_same (G := G) (p := p) (o := .lst (done.map rowC)))]
    rw [kAppend_l cup_same, cup_cup]
    refine ⟨e1, ?_⟩
    refine sp_change_move_i hn ch ?_
    refine sp_times_i (by rw [pm.len]; exact hn) (pm.r100 pr) ?_
    rw [hK]
    have ih := rows_loop (D := D) (t0 := t0) (t1 := t1) (G := G) (p := p) hn ls (timesR r (mvOf l n)) (done ++ [r]) (some (rowC l)) (times_perm pr pm) (by simp at hl ⊢; omega) (fun x hx => hc x (List.mem_cons_of_mem _ hx)) (fun o => by
      have := hD o
      simp only [leadRows] at this
      simpa using this)
    rw [List.map_append, List.map_cons, List.map_nil] at ih
    exact dnS.here ih
theorem p_rows_through : ∀ cs G R, sp_rows_through cs G R → T_rows_through (endR R) (cstart 5 cs) G := by
  intro cs G R h
  unfold sp_rows_through at h
  split at h
  · obtain ⟨ls, n, rfl, rfl, hn, hl, hc, h⟩ := h
    unfold T_rows_through
    simp [cstart]
    intro p hp
    unfold sp_first_row
    refine ⟨n, rfl, hn, ?_⟩
    simp
    have := rows_loop (t0 := .a .non) (t1 := rowsC ls) (G := G) (p := p) (D := ⟨cRet (cTup (cCons (cCB cTuple (cCons (cVar 2) cNil)) (cCons (cVar 3) cNil))) (endR R), (endR R).rt, (endR R).bk, (endR R).ct⟩) hn ls (List.range' 1 n) [] none (rounds_perm n) (by simpa using hl) hc (fun o4 => by
      simp [cTuple_l]
      exact ⟨by rw [sizeLine_eq]; decide, .of h (Sub.new hp)⟩)
    exact this
  · exact h.elim
theorem p_check_plain : ∀ cs G R, sp_check_plain cs G R → T_check_plain (endR R) (cstart 4 cs) G := by
  intro cs G R h
  unfold sp_check_plain at h
  split at h
  · obtain ⟨ls, n, rfl, rfl, hn, h1, h2, hc, h⟩ := h
    unfold T_check_plain
    have loop : ∀ (ls : List (List Nat)) (i : Nat) (o o' : Option CV) (t0 : CV) (D : CEnds), (∀ τ', D.nx τ' G) → (∀ l ∈ ls, Ch n 1 l) → forL (cgTup 2 (cgCons (cgName 2) (cgCons (cgName 3) cgNil))) T_check_plain_L1 D (fun _ => True) (enumAt i (ls.map rowC)) [some t0, some (nC n), o, o'] G := by
      intro ls
      induction ls with
      | nil => intro i o o' t0 D hD _; exact ⟨trivial, hD _⟩
      | cons l ls ih =>
        intro i o o' t0 D hD hl
        rw [List.map_cons, enumAt_cons]
        refine forL_step trivial fun K hK => ?_
        simp [T_check_plain_L1]
        unfold sp_is_sound_change
        refine ⟨l, n, rfl, rfl, hn, hl l List.mem_cons_self, ?_⟩
        simp
        rw [hK]
        exact dnS.here (ih _ _ _ _ _ hD fun x hx => hl x (List.mem_cons_of_mem _ hx))
    have e1 : (1 : Int) ≤ (ls.length : Int) := by omega
    have e2 : (ls.length : Int) ≤ 32 := by omega
    simp [cstart, isT, e1, e2]
    exact loop ls 0 none none _ _ (fun τ' => .of h .rfl') hc
  · exact h.elim
/-- a text of true signs -/
def TxtOk (x : Str) : Prop := x.cps.all (· < 0x110000) = true
theorem okD_text {x : Str} (h : TxtOk x) : okD (.text x) := by
  unfold okD SeqAt.shaped nkD PyData.canLay0 PyData.depth
  have : PySem.PyData.strOk x = true := h
  rw [this]
  rfl
theorem ceq_ss {x y : Str} {G : CH} {R : CVK} (hx : TxtOk x) (hy : TxtOk y) (h : R (.a (.bl (decide (x = y)))) G) : cEq (.a (.str x)) (.a (.str y)) G R := by
  have := ceq_nk (a := .text x) (b := .text y) (G := G) (R := R) (okD_text hx) (okD_text hy) (by
    rw [show decide (NestedKey.text x = NestedKey.text y) = decide (x = y) from decide_eq_decide.mpr ⟨fun e => by injection e, fun e => by rw [e]⟩]
    exact h)
  simpa [nkV] using this
theorem cne_ss {x y : Str} {G : CH} {R : CVK} (hx : TxtOk x) (hy : TxtOk y) (h : R (.a (.bl (!decide (x = y)))) G) : cNe (.a (.str x)) (.a (.str y)) G R := by
  have := cne_nk (a := .text x) (b := .text y) (G := G) (R := R) (okD_text hx) (okD_text hy) (by
    rw [show decide (NestedKey.text x = NestedKey.text y) = decide (x = y) from decide_eq_decide.mpr ⟨fun e => by injection e, fun e => by rw [e]⟩]
    exact h)
  simpa [nkV] using this
theorem txt_lt {c : Nat} (h : c < 0x110000) : TxtOk (ltS c) := by
  unfold TxtOk
  simp [h]
theorem ltS_inj {c d : Nat} (h : ltS c = ltS d) : c = d := by
  injection h with h
  have := congrArg Array.toList h
  simpa using this
theorem ltS_p : (Str.ofString "p" : Str) = ltS 112 := by decide +kernel
theorem txt_p : TxtOk (Str.ofString "p") := by rw [ltS_p]; exact txt_lt (by decide)
theorem Lt.txt {c : Nat} (h : Lt c) : TxtOk (ltS c) := txt_lt (by have := h.2; omega)
theorem sp_is_letter_i {c : Nat} {G : CH} {R : CVK} (h : Lt c) (hR : R (.a (.bl true)) G) : sp_is_letter [.a (.str (ltS c))] G R := ⟨c, rfl, h, hR⟩
theorem sp_are_changes_i {ls : List (List Nat)} {n : Nat} {G : CH} {R : CVK} (hn : n ≤ 100) (h1 : ls ≠ []) (h2 : ∀ l ∈ ls, Ch n 1 l) (hR : R (.a (.bl true)) G) : sp_are_changes [rowsC ls, nC n] G R := ⟨ls, n, rfl, rfl, hn, h1, h2, hR⟩
theorem p_is_call : ∀ cs G R, sp_is_call cs G R → T_is_call (endR R) (cstart 6 cs) G := by
  intro cs G R h
  unfold sp_is_call at h
  split at h
  · obtain ⟨c, n, size, rfl, rfl, rfl, hn, hs, ok, h⟩ := h
    unfold T_is_call
    have e0 : ¬ (ltS c.letter = Str.ofString "p") := fun e => ok.np (ltS_inj (e.trans ltS_p))
    have hle := ok.le
    have e1 : (c.at_ : Int) ≤ (size : Int) := by omega
    have e2 : (c.at_ : Int) + (c.many.length : Int) ≤ (size : Int) := by omega
    simp [cstart, isT]
    refine sp_is_letter_i ok.lt ?_
    simp
    refine ceq_ss ok.lt.txt txt_p ?_
    rw [decide_eq_false e0]
    simp [sp_is_integer, isIntIn, e1]
    refine sp_are_changes_i hn ok.ne ok.ch ?_
    simp [e2]
    exact .of h .rfl'
  · exact h.elim
abbrev seenL (l : List (Nat × Int)) : List (NestedKey × CV) := l.map fun q => (.text (ltS q.1), .a (.int q.2))
theorem seenL_out {l : List (Nat × Int)} {b : Nat} (h : b ∉ l.map (·.1)) : ∀ q ∈ seenL l, q.1 ≠ .text (ltS b) := by
  intro q hq e
  obtain ⟨c, hc, rfl⟩ := List.mem_map.mp hq
  injection e with e
  exact h (by rw [← ltS_inj e]; exact List.mem_map_of_mem hc)
theorem p_check_calls : ∀ cs G R, sp_check_calls cs G R → T_check_calls (endR R) (cstart 9 cs) G := by
  intro cs G R h
  unfold sp_check_calls at h
  split at h
  · obtain ⟨cs, n, size, rfl, rfl, rfl, hn, hs, h5, hc, nd, h⟩ := h
    unfold T_check_calls
    have loop : ∀ (cs : List Cal) (i : Nat) (o o' o3 o6 o7 o8 : Option CV) (t0 : CV) (D : CEnds), (∀ o o', D.nx [some t0, some (nC n), some (nC size), o3, o, o', o6, o7, o8] G) → (∀ c ∈ cs, CalOk n size c) → forL (cgTup 2 (cgCons (cgName 4) (cgCons (cgName 5) cgNil))) T_check_calls_L1 D (fun _ => True) (enumAt i (cs.map calC)) [some t0, some (nC n), some (nC size), o3, o, o', o6, o7, o8] G := by
      intro cs
      induction cs with
      | nil => intro i o o' o3 o6 o7 o8 t0 D hD _; exact ⟨trivial, hD _ _⟩
      | cons c cs ih =>
        intro i o o' o3 o6 o7 o8 t0 D hD hc
        rw [List.map_cons, enumAt_cons]
        refine forL_step trivial fun K hK => ?_
        simp [T_check_calls_L1]
        unfold sp_is_call
        refine ⟨c, n, size, rfl, rfl, rfl, hn, hs, hc c List.mem_cons_self, ?_⟩
        simp
        rw [hK]
        exact dnS.here (ih _ _ _ _ _ _ _ _ _ hD fun x hx => hc x (List.mem_cons_of_mem _ hx))
    have loop2 : ∀ (p : Addr) (cs : List Cal) (seen : List (Nat × Int)) (o4 o5 o6 o7 o8 : Option CV) (t0 : CV) (D : CEnds), (∀ τ' l, D.nx τ' (cup G p (.dic false l))) → (seen.map (·.1) ++ cs.map (·.letter)).Nodup → seen.length + cs.length ≤ 100 → forL (cgTup 3 (cgCons (cgName 6) (cgCons (cgName 7) (cgCons (cgName 8) cgNil)))) T_check_calls_L2 D (fun _ => True) (cs.map calC) [some t0, some (nC n), some (nC size), some (.a (.ref p)), o4, o5, o6, o7, o8] (cup G p (.dic false (seenL seen))) := by
      intro p cs
      induction cs with
      | nil => intro seen o4 o5 o6 o7 o8 t0 D hD _ _; exact ⟨trivial, hD _ _⟩
      | cons c cs ih =>
        intro seen o4 o5 o6 o7 o8 t0 D hD nd hl
        rw [List.map_cons]
        refine forL_step trivial fun K hK => ?_
        have hb : c.letter ∉ seen.map (·.1) := fun z => (List.nodup_append.mp nd).2.2 _ z _ (by rw [List.map_cons]; exact List.mem_cons_self) rfl
        have e3 : (seenL seen).length < sizeLine := by rw [List.length_map, sizeLine_eq]; simp at hl; omega
        have q1 : ∀ {R : CVK}, InT [] false (.a (.str (ltS c.letter))) (.a (.ref p)) (cup G p (.dic false (seenL seen))) R = R (.a (.bl false)) (cup G p (.dic false (seenL seen))) := by
          intro R
          rw [InT_dic cup_same keyOf_s rfl, dval_out (seenL_out hb)]
          rfl
        have q2 : ∀ {R : CH → Prop} {v : CV}, cSet (.a (.ref p)) (.a (.str (ltS c.letter))) v (cup G p (.dic false (seenL seen))) R = R (cup G p (.dic false (seenL seen ++ [(.text (ltS c.letter), v)]))) := by
          intro R v
          rw [cSet_dic cup_same keyOf_s rfl, dput_out (seenL_out hb), cup_cup]
          simp only [e3, true_and]
        simp [T_check_calls_L2, q1, q2]
        rw [hK]
        have ih := ih (seen ++ [(c.letter, (c.at_ : Int) + (c.many.length : Int))]) o4 o5 (some (.a (.str (ltS c.letter)))) (some (nC c.at_)) (some (rowsC c.many)) t0 D hD (by simpa using nd) (by simp at hl ⊢; omega)
        have es : seenL (seen ++ [(c.letter, (c.at_ : Int) + (c.many.length : Int))]) = seenL seen ++ [(.text (ltS c.letter), .a (.int ((c.at_ : Int) + (c.many.length : Int))))] := by simp
        rw [es] at ih
        exact dnS.here ih
    have e5 : ¬ ((5 : Int) < (cs.length : Int)) := by omega
    simp [cstart, isT]
    refine loop cs 0 none none none none none none _ _ (fun o o' => ?_) hc
    simp [e5]
    intro p hp
    exact loop2 p cs [] _ _ _ _ _ _ _ (fun τ' l => .of h (Sub.new hp)) (by simpa using nd) (by simp; omega)
  · exact h.elim
mutual
/-- x is data k, lists and tuples alike, d deep -/
inductive DeepAt (G : CH) : Nat → CV → NestedKey → Prop
  | num {d : Nat} (i : Int) : DeepAt G d (.a (.int i)) (.num i)
  | text {d : Nat} (z : Str) : DeepAt G d (.a (.str z)) (.text z)
  | tup {d : Nat} {xs : List CV} {ks : List NestedKey} : DeepAts G d xs ks → DeepAt G (d + 1) (.tup xs) (.tup ks)
  | lst {d : Nat} {p : Addr} {xs : List CV} {ks : List NestedKey} : G p = some (.lst xs) → DeepAts G d xs ks → DeepAt G (d + 1) (.a (.ref p)) (.tup ks)
inductive DeepAts (G : CH) : Nat → List CV → List NestedKey → Prop
  | nil {d : Nat} : DeepAts G d [] []
  | cons {d : Nat} {x : CV} {xs : List CV} {k : NestedKey} {ks : List NestedKey} : DeepAt G d x k → DeepAts G d xs ks → DeepAts G d (x :: xs) (k :: ks)
end
mutual
theorem DeepAt.mono {G G' : CH} (s : Sub G G') : ∀ {d : Nat} {x : CV} {k : NestedKey}, DeepAt G d x k → DeepAt G' d x k
  | _, _, _, .num i => .num i
  | _, _, _, .text z => .text z
  | _, _, _, .tup h => .tup (DeepAts.mono s h)
  | _, _, _, .lst e h => .lst (s _ _ e) (DeepAts.mono s h)
theorem DeepAts.mono {G G' : CH} (s : Sub G G') : ∀ {d : Nat} {xs : List CV} {ks : List NestedKey}, DeepAts G d xs ks → DeepAts G' d xs ks
  | _, _, _, .nil => .nil
  | _, _, _, .cons h t => .cons (DeepAt.mono s h) (DeepAts.mono s t)
end
theorem DeepAts.length {G : CH} : ∀ {d : Nat} {xs : List CV} {ks : List NestedKey}, DeepAts G d xs ks → xs.length = ks.length
  | _, _, _, .nil => rfl
  | _, _, _, .cons _ t => congrArg Nat.succ (DeepAts.length t)
def sp_deepN (n : Nat) : CSp := fun cs G R => match cs with
  | [x, .a (.int lv)] => ∃ (k : NestedKey) (d : Nat), d ≤ n ∧ DeepAt G d x k ∧ 0 ≤ lv ∧ lv + (d : Int) ≤ 60 ∧ bigK k = false ∧ R (nkV k) G
  | _ => False
where
  /-- some tuple has more than a thousand items -/
  bigK : NestedKey → Bool
    | .tup ks => decide (1000 < ks.length) || bigKs ks
    | _ => false
  bigKs : List NestedKey → Bool
    | [] => false
    | k :: ks => bigK k || bigKs ks
def sp_deep : CSp := sp_deepN 6
/-- stage, plain lead, calls -/
structure Mth where
  n : Nat
  ls : List (List Nat)
  cs : List Cal
structure MthOk (M : Mth) : Prop where
  n3 : 3 ≤ M.n
  n8 : M.n ≤ 8
  l1 : 1 ≤ M.ls.length
  l32 : M.ls.length ≤ 32
  ch : ∀ l ∈ M.ls, Ch M.n 1 l
  c5 : M.cs.length ≤ 5
  ok : ∀ c ∈ M.cs, CalOk M.n M.ls.length c
  nd : (M.cs.map (·.letter)).Nodup
/-- the lead with a call -/
def called (ls : List (List Nat)) (c : Cal) : List (List Nat) := ls.take c.at_ ++ c.many ++ ls.drop (c.at_ + c.many.length)
/-- the leads by letters (112 is p) -/
def Mth.leads (M : Mth) : List (Nat × List (List Nat)) := (112, M.ls) :: M.cs.map fun c => (c.letter, called M.ls c)
def Mth.lead (M : Mth) (c : Nat) : Option (List (List Nat)) := M.leads.lookup c
def Mth.rows (M : Mth) (c : Nat) : List (List Nat) := (leadRows M.n (List.range' 1 M.n) ((M.lead c).getD [])).1
def Mth.move (M : Mth) (c : Nat) : List Nat := (leadRows M.n (List.range' 1 M.n) ((M.lead c).getD [])).2
def callsC (cs : List Cal) : CV := .tup (cs.map calC)
/-- a method as it stands -/
def MethAt (G : CH) (p : Addr) (M : Mth) : Prop := MthOk M ∧ ∃ (d1 d2 d3 : Addr) (k1 k2 k3 : List (NestedKey × CV)) (v : CV),
  G p = some (.ins c_Method [(a_stage, nC M.n), (a_plain, rowsC M.ls), (a_calls, callsC M.cs), (a_opening, rowC (List.range' 1 M.n)), (a_leads, .a (.ref d1)), (a_row_of_letters, v), (a_moves, .a (.ref d2)), (a_bodies, .a (.ref d3))]) ∧
  G d1 = some (.dic false k1) ∧ G d2 = some (.dic false k2) ∧ G d3 = some (.dic false k3) ∧
  (∀ c, dval k1 (.text (ltS c)) = (M.lead c).map fun l => rowsC l) ∧ (∀ c, dval k2 (.text (ltS c)) = (M.lead c).map fun _ => rowC (M.move c)) ∧ (∀ c, dval k3 (.text (ltS c)) = (M.lead c).map fun _ => rowsC (M.rows c))
theorem MethAt.mono {G G' : CH} {p : Addr} {M : Mth} (h : MethAt G p M) (s : Sub G G') : MethAt G' p M := by
  obtain ⟨h0, d1, d2, d3, k1, k2, k3, v, e0, e1, e2, e3, r⟩ := h
  exact ⟨h0, d1, d2, d3, k1, k2, k3, v, s _ _ e0, s _ _ e1, s _ _ e2, s _ _ e3, r⟩
/-- what stood stands -/
def SubBut (p : Addr) (G G' : CH) : Prop := ∀ q o, q ≠ p → G q = some o → G' q = some o
def sp_Method___init__ : CSp := fun cs G R => match cs with
  | [.a (.ref p), .a (.int i), x, y] => ∃ M : Mth, i = M.n ∧ x = rowsC M.ls ∧ y = callsC M.cs ∧ G p = some (.ins c_Method []) ∧ MthOk M ∧ ∀ G', SubBut p G G' → MethAt G' p M → R (.a .non) G'
  | _ => False
def sp_Method___contains__ : CSp := fun cs G R => match cs with
  | [.a (.ref p), .a (.str z)] => ∃ (M : Mth) (c : Nat), z = ltS c ∧ MethAt G p M ∧ R (.a (.bl (M.lead c).isSome)) G
  | _ => False
/-- deep -/
def T_deep (rec : CSp) : CTS := (cSeq (cIfS (cAnd (cTruth (cIsi ["list", "tuple"] (cVar 0))) (cTest (cOp cLt (cVar 1) (cC (.int 60))))) (cRet (cCB cTuple (cCons (cLc (ciVal (cVar 0)) (cgName 2) cYes (cCall rec [] (cCons (cVar 2) (cCons (cOp cAdd (cVar 1) (cC (.int 1))) cNil))) [2]) cNil))) cNext)
    (cRet (cVar 0)))
def T_Method___init___L1 : CTS := (cAsg (cOp cAdd (cOp cAdd (cSlice cSl (cVar 4) cNoPart (cPart (cVar 10))) (cVar 11)) (cSlice cSl (cVar 4) (cPart (cOp cAdd (cVar 10) (cCB (cLen []) (cCons (cVar 11) cNil)))) cNoPart)) (cgSub (cVar 6) (cVar 9) cSet))
def T_Method___init___L2 : CTS := (cSeq (cAsg (cCall sp_rows_through [] (cCons (cVar 1) (cCons (cOp (cIx []) (cVar 6) (cVar 9)) cNil))) (cgTup 2 (cgCons (cgName 12) (cgCons (cgName 13) cgNil))))
    (cSeq (cAsg (cVar 12) (cgSub (cVar 8) (cVar 9) cSet))
    (cAsg (cVar 13) (cgSub (cVar 7) (cVar 9) cSet))))
/-- Method.__init__ -/
def T_Method___init__ : CTS := (cSeq (cIfS (cNot (cTruth (cCall sp_is_integer [] (cCons (cVar 1) (cCons (cC (.int 3)) (cCons (cC (.int 8)) cNil)))))) cNever cNext)
    (cSeq (cSetN 4 (cCall sp_deep [.a (.int 0)] (cCons (cVar 2) cNil)))
    (cSeq (cDrop (cCall sp_check_plain [] (cCons (cVar 4) (cCons (cVar 1) cNil))))
    (cSeq (cSetN 5 (cCall sp_deep [.a (.int 0)] (cCons (cVar 3) cNil)))
    (cSeq (cDrop (cCall sp_check_calls [] (cCons (cVar 5) (cCons (cVar 1) (cCons (cCB (cLen []) (cCons (cVar 4) cNil)) cNil)))))
    (cSeq (cFld c_Method a_stage (cVar 0) (cVar 1))
    (cSeq (cFld c_Method a_plain (cVar 0) (cVar 4))
    (cSeq (cFld c_Method a_calls (cVar 0) (cVar 5))
    (cSeq (cFld c_Method a_opening (cVar 0) (cCall sp_first_row [] (cCons (cVar 1) cNil)))
    (cSeq (cSetN 6 (cDic1 false (cC (.str "p")) (cVar 4)))
    (cSeq (cFor (ciVal (cVar 5)) (cgTup 3 (cgCons (cgName 9) (cgCons (cgName 10) (cgCons (cgName 11) cgNil)))) T_Method___init___L1)
    (cSeq (cSetN 7 (cNewD false))
    (cSeq (cSetN 8 (cNewD false))
    (cSeq (cFor (ciVal (cCB cSorted (cCons (cVar 6) cNil))) (cgName 9) T_Method___init___L2)
    (cSeq (cFld c_Method a_leads (cVar 0) (cVar 6))
    (cSeq (cFld c_Method a_row_of_letters (cVar 0) (cCB cTuple (cCons (cCB cSorted (cCons (cVar 6) cNil)) cNil)))
    (cSeq (cFld c_Method a_moves (cVar 0) (cVar 7))
    (cFld c_Method a_bodies (cVar 0) (cVar 8)))))))))))))))))))
/-- Method.__contains__ -/
def T_Method___contains__ : CTS := (cRet (cAndV (cIsi ["str"] (cVar 1)) (cOp (InT [] false) (cVar 1) (cAttr a_leads [] (cVar 0)))))
/-- a comprehension whose items change nothing, told by pairs -/
theorem lcL_pair {g : CG} {te : CTE} {st : CH → Prop} {vs : List Nat} {D : Addr} {τ : CSt} {R : CVK} (P : CV → CV → Prop) {G : CH} (hst : ∀ acc, st (cup G D (.lst acc)))
    (he : ∀ x y (acc : List CV) (K : CVK), P x y → K y (cup G D (.lst acc)) → g x (cwipe τ vs) (cup G D (.lst acc)) fun τ2 G2 => te τ2 G2 K) : ∀ {xs ys : List CV}, Paired P xs ys → ∀ (acc : List CV), acc.length + xs.length ≤ sizeLine →
    R (.a (.ref D)) (cup G D (.lst (acc ++ ys))) → lcL g cYes te st vs D τ R xs (cup G D (.lst acc))
  | [], [], .nil, acc, _, h => by
    unfold lcL
    exact ⟨hst acc, by simpa using h⟩
  | x :: xs, y :: ys, .cons hp t, acc, hl, h => by
    unfold lcL
    refine ⟨hst acc, ?_⟩
    simp only [cYes_e, if_true]
    refine he x y acc _ hp ?_
    refine ⟨acc, cup_same, by simp at hl; omega, ?_⟩
    rw [cup_cup]
    refine dnH.here (lcL_pair P hst he t (acc ++ [y]) (by simp at hl ⊢; omega) ?_)
    simpa using h
theorem deeps_pair {G : CH} {d : Nat} : ∀ {xs : List CV} {ks : List NestedKey}, DeepAts G d xs ks → sp_deepN.bigKs ks = false → Paired (fun x y => ∃ k, DeepAt G d x k ∧ sp_deepN.bigK k = false ∧ y = nkV k) xs (ks.map nkV)
  | [], [], .nil, _ => .nil
  | x :: xs, k :: ks, .cons h t, hb => by
    unfold sp_deepN.bigKs at hb
    obtain ⟨b1, b2⟩ := Bool.or_eq_false_iff.mp hb
    exact .cons ⟨k, h, b1, rfl⟩ (deeps_pair t b2)
theorem p_deepN (rec : CSp) (n : Nat) (hrec : ∀ m, n = m + 1 → rec = sp_deepN m) : ∀ cs G R, sp_deepN n cs G R → T_deep rec (endR R) (cstart 3 cs) G := by
  intro cs G R h
  unfold sp_deepN at h
  split at h
  · rename_i x lv
    obtain ⟨k, d, hd, ha, h0, h60, hb, h⟩ := h
    unfold T_deep
    cases ha with
    | num i => simp [cstart, isT]; exact .of h .rfl'
    | text z => simp [cstart, isT]; exact .of h .rfl'
    | @tup d xs ks ha =>
      have e1 : lv < 60 := by omega
      obtain ⟨m, rfl⟩ : ∃ m, n = m + 1 := ⟨n - 1, by omega⟩
      have er := hrec m rfl
      subst er
      unfold sp_deepN.bigK at hb
      obtain ⟨b1, b2⟩ := Bool.or_eq_false_iff.mp hb
      have hl := ha.length
      have b1 : ks.length ≤ 1000 := by simpa using b1
      simp [cstart, isT, e1]
      intro D hD
      refine lcL_pair _ (fun _ => trivial) (fun x y acc K hp hK => ?_) (deeps_pair ha b2) [] (by rw [sizeLine_eq]; simp; omega) ?_
      · obtain ⟨k, hk, hb, rfl⟩ := hp
        simp [cwipe]
        unfold sp_deepN
        exact ⟨k, d, by omega, hk.mono (Sub.new hD), by omega, by omega, hb, hK⟩
      · rw [cTuple_l cup_same]
        refine .of ?_ (Sub.new hD)
        unfold nkV at h
        rw [nkVs_map] at h
        simpa using h
    | @lst d p xs ks e ha =>
      have e1 : lv < 60 := by omega
      obtain ⟨m, rfl⟩ : ∃ m, n = m + 1 := ⟨n - 1, by omega⟩
      have er := hrec m rfl
      subst er
      unfold sp_deepN.bigK at hb
      obtain ⟨b1, b2⟩ := Bool.or_eq_false_iff.mp hb
      have hl := ha.length
      have b1 : ks.length ≤ 1000 := by simpa using b1
      simp [cstart, isT, e1, cTy_l e, srcOf_ref e]
      intro D hD
      have hne : p ≠ D := fun z => by rw [z, hD] at e; cases e
      refine lcL_pair (st := fun G => CH.seq G p = some xs) _ (fun acc => by unfold CH.seq; rw [cup_ne hne, e]) (fun x y acc K hp hK => ?_) (deeps_pair ha b2) [] (by rw [sizeLine_eq]; simp; omega) ?_
      · obtain ⟨k, hk, hb, rfl⟩ := hp
        simp [cwipe]
        unfold sp_deepN
        exact ⟨k, d, by omega, hk.mono (Sub.new hD), by omega, by omega, hb, hK⟩
      · rw [cTuple_l cup_same]
        refine .of ?_ (Sub.new hD)
        unfold nkV at h
        rw [nkVs_map] at h
        simpa using h
  · exact h.elim
def kAttr (f : Nat) (tab : List (Nat × CSp)) (x : CV) (G : CH) (R : CVK) : Prop := ∃ p c fs, x = .a (.ref p) ∧ G p = some (.ins c fs) ∧ match fs.lookup f with
  | some v => R v G
  | none => ∃ sp, tab.lookup c = some sp ∧ sp [x] G R
@[simp] theorem cAttr_e {f : Nat} {tab : List (Nat × CSp)} {T : CTE} {τ : CSt} {G : CH} {R : CVK} : cAttr f tab T τ G R = T τ G fun x G1 => kAttr f tab x G1 R := propext Iff.rfl
theorem kAttr_fld {f c : Nat} {tab : List (Nat × CSp)} {p : Addr} {fs : List (Nat × CV)} {v : CV} {G : CH} {R : CVK} (h : G p = some (.ins c fs)) (l : fs.lookup f = some v) (hR : R v G) : kAttr f tab (.a (.ref p)) G R := ⟨p, c, fs, rfl, h, by rw [l]; exact hR⟩
theorem kAttr_prop {f c : Nat} {tab : List (Nat × CSp)} {p : Addr} {fs : List (Nat × CV)} {sp : CSp} {G : CH} {R : CVK} (h : G p = some (.ins c fs)) (l : fs.lookup f = none) (t : tab.lookup c = some sp) (hR : sp [.a (.ref p)] G R) : kAttr f tab (.a (.ref p)) G R := ⟨p, c, fs, rfl, h, by rw [l]; exact ⟨sp, t, hR⟩⟩
theorem isSome_map {α β : Type} {f : α → β} {o : Option α} : (o.map f).isSome = o.isSome := by cases o <;> rfl
theorem p_Method___contains__ : ∀ cs G R, sp_Method___contains__ cs G R → T_Method___contains__ (endR R) (cstart 2 cs) G := by
  intro cs G R h
  unfold sp_Method___contains__ at h
  split at h
  · obtain ⟨M, c, rfl, ⟨ok, d1, d2, d3, k1, k2, k3, v, e0, e1, e2, e3, r1, r2, r3⟩, h⟩ := h
    unfold T_Method___contains__
    simp [cstart, isT]
    refine kAttr_fld e0 (v := .a (.ref d1)) rfl ?_
    rw [InT_dic e1 keyOf_s rfl, r1, isSome_map]
    exact .of h .rfl'
  · exact h.elim
theorem cut_to {α : Type} {xs : List α} {k : Nat} (h : k ≤ xs.length) : cut xs none (some (k : Int)) = xs.take k := by
  unfold cut
  rw [HT.sIx_none, HT.sIx_nat, Nat.min_eq_left h]
  simp
theorem cut_from {α : Type} {xs : List α} {k : Nat} (h : k ≤ xs.length) : cut xs (some (k : Int)) none = xs.drop k := by
  unfold cut
  rw [HT.sIx_none, HT.sIx_nat, Nat.min_eq_left h]
  rw [List.take_of_length_le (by rw [List.length_drop]; exact Nat.le_refl _)]
theorem dval_letters {β : Type} {f : β → CV} {c : Nat} : ∀ l : List (Nat × β), dval (l.map fun q => (NestedKey.text (ltS q.1), f q.2)) (.text (ltS c)) = (l.lookup c).map f
  | [] => rfl
  | (d, b) :: l => by
    rw [List.map_cons, dval_cons, List.lookup_cons]
    by_cases e : d = c
    · subst e
      simp
    · have e1 : ¬ NestedKey.text (ltS d) = NestedKey.text (ltS c) := fun z => e (by injection z with z; exact ltS_inj z)
      have e2 : (c == d) = false := beq_eq_false_iff_ne.mpr fun z => e z.symm
      rw [if_neg e1, e2]
      exact dval_letters l
def codeS (y : Str) : Nat := y.cps.getD 0 0
theorem codeS_lt {c : Nat} : codeS (ltS c) = c := rfl
theorem dval_texts {f : Nat → CV} {c : Nat} : ∀ ys : List Str, (∀ y ∈ ys, ∃ d, y = ltS d) → dval (ys.map fun y => (NestedKey.text y, f (codeS y))) (.text (ltS c)) = if ltS c ∈ ys then some (f c) else none
  | [], _ => rfl
  | y :: ys, h => by
    rw [List.map_cons, dval_cons]
    by_cases e : y = ltS c
    · subst e
      simp [codeS_lt]
    · have e1 : ¬ NestedKey.text y = NestedKey.text (ltS c) := fun z => e (by injection z)
      have e2 : ¬ ltS c = y := fun z => e z.symm
      rw [if_neg e1, dval_texts ys fun z hz => h z (List.mem_cons_of_mem _ hz)]
      simp [e2]
theorem texts_out {f : Nat → CV} {ys : List Str} {y : Str} (h : y ∉ ys) : ∀ q ∈ ys.map (fun y => (NestedKey.text y, f (codeS y))), q.1 ≠ NestedKey.text y := by
  intro q hq e
  obtain ⟨z, hz, rfl⟩ := List.mem_map.mp hq
  injection e with e
  subst e
  exact h hz
theorem lookup_some_mem {β : Type} {c : Nat} : ∀ {l : List (Nat × β)}, c ∈ l.map (·.1) → ∃ b, l.lookup c = some b
  | [], h => by cases h
  | (d, b) :: l, h => by
    rw [List.lookup_cons]
    by_cases e : c = d
    · subst e; exact ⟨b, by simp⟩
    · have e2 : (c == d) = false := beq_eq_false_iff_ne.mpr e
      rw [e2]
      refine lookup_some_mem ?_
      rw [List.map_cons] at h
      rcases List.mem_cons.mp h with z | z
      · exact absurd z e
      · exact z
theorem lookup_none_mem {β : Type} {c : Nat} {l : List (Nat × β)} (h : c ∉ l.map (·.1)) : l.lookup c = none := by
  induction l with
  | nil => rfl
  | cons q l ih =>
    obtain ⟨d, b⟩ := q
    rw [List.map_cons] at h
    have e2 : (c == d) = false := beq_eq_false_iff_ne.mpr fun z => h (by rw [z]; exact List.mem_cons_self)
    rw [List.lookup_cons, e2]
    exact ih fun z => h (List.mem_cons_of_mem _ z)
theorem lookup_memV {β : Type} {c : Nat} {b : β} {l : List (Nat × β)} (h : l.lookup c = some b) : (c, b) ∈ l := lookup_mem h
theorem called_len {n : Nat} {ls : List (List Nat)} {c : Cal} (h : CalOk n ls.length c) : (called ls c).length = ls.length := by
  unfold called
  have := h.le
  simp
  omega
theorem called_ch {n : Nat} {ls : List (List Nat)} {c : Cal} (h : CalOk n ls.length c) (hl : ∀ l ∈ ls, Ch n 1 l) : ∀ l ∈ called ls c, Ch n 1 l := by
  intro l hm
  unfold called at hm
  rcases List.mem_append.mp hm with z | z
  · rcases List.mem_append.mp z with z | z
    · exact hl l (List.mem_of_mem_take z)
    · exact h.ch l z
  · exact hl l (List.mem_of_mem_drop z)
theorem MthOk.lead_ok {M : Mth} (ok : MthOk M) {c : Nat} {l : List (List Nat)} (h : M.lead c = some l) : l.length = M.ls.length ∧ ∀ x ∈ l, Ch M.n 1 x := by
  have hm := lookup_memV (show M.leads.lookup c = some l from h)
  unfold Mth.leads at hm
  rcases List.mem_cons.mp hm with e | hm
  · injection e with e1 e2
    subst e2
    exact ⟨rfl, ok.ch⟩
  · obtain ⟨k, hk, e⟩ := List.mem_map.mp hm
    injection e with e1 e2
    subst e2
    exact ⟨called_len (ok.ok k hk), called_ch (ok.ok k hk) ok.ch⟩
theorem MthOk.letters_nd {M : Mth} (ok : MthOk M) : (M.leads.map (·.1)).Nodup := by
  unfold Mth.leads
  rw [List.map_cons, List.map_map]
  refine List.nodup_cons.mpr ⟨fun z => ?_, ok.nd⟩
  obtain ⟨k, hk, e⟩ := List.mem_map.mp z
  exact (ok.ok k hk).np e
theorem seq_of {G : CH} {p : Addr} {xs : List CV} (h : G p = some (.lst xs)) : G.seq p = some xs := by
  unfold CH.seq
  rw [h]
abbrev leadsK (l : List (Nat × List (List Nat))) : List (NestedKey × CV) := l.map fun q => (NestedKey.text (ltS q.1), rowsC q.2)
theorem leadsK_out {l : List (Nat × List (List Nat))} {b : Nat} (h : b ∉ l.map (·.1)) : ∀ q ∈ leadsK l, q.1 ≠ .text (ltS b) := by
  intro q hq e
  obtain ⟨c, hc, rfl⟩ := List.mem_map.mp hq
  injection e with e
  exact h (by rw [← ltS_inj e]; exact List.mem_map_of_mem hc)
theorem mth_loop1 {D : CEnds} {G : CH} {d : Addr} {n : Nat} {ls : List (List Nat)} {t0 t1 t2 t3 t5 : CV} {o7 o8 o12 o13 : Option CV} (hl : ls.length ≤ 32) :
    ∀ (cs : List Cal) (done : List (Nat × List (List Nat))) (o9 o10 o11 : Option CV), (done.map (·.1) ++ cs.map (·.letter)).Nodup → done.length + cs.length ≤ 100 → (∀ c ∈ cs, CalOk n ls.length c) →
    (∀ o9 o10 o11, D.nx [some t0, some t1, some t2, some t3, some (rowsC ls), some t5, some (.a (.ref d)), o7, o8, o9, o10, o11, o12, o13] (cup G d (.dic false (leadsK (done ++ cs.map fun c => (c.letter, called ls c)))))) →
    forL (cgTup 3 (cgCons (cgName 9) (cgCons (cgName 10) (cgCons (cgName 11) cgNil)))) T_Method___init___L1 D (fun _ => True) (cs.map calC) [some t0, some t1, some t2, some t3, some (rowsC ls), some t5, some (.a (.ref d)), o7, o8, o9, o10, o11, o12, o13] (cup G d (.dic false (leadsK done)))
  | [], done, o9, o10, o11, _, _, _, hD => ⟨trivial, by simpa using hD o9 o10 o11⟩
  | c :: cs, done, o9, o10, o11, nd, hs, hc, hD => by
    rw [List.map_cons]
    refine forL_step trivial fun K hK => ?_
    have ok := hc c List.mem_cons_self
    have hle := ok.le
    have hb : c.letter ∉ done.map (·.1) := fun z => (List.nodup_append.mp nd).2.2 _ z _ (by rw [List.map_cons]; exact List.mem_cons_self) rfl
    have e3 : (leadsK done).length < sizeLine := by rw [List.length_map, sizeLine_eq]; simp at hs; omega
    have q2 : ∀ {R : CH → Prop} {v : CV}, cSet (.a (.ref d)) (.a (.str (ltS c.letter))) v (cup G d (.dic false (leadsK done))) R = R (cup G d (.dic false (leadsK done ++ [(.text (ltS c.letter), v)]))) := by
      intro R v
      rw [cSet_dic cup_same keyOf_s rfl, dput_out (leadsK_out hb), cup_cup]
      simp only [e3, true_and]
    have c1 : cut (ls.map rowC) none (some (c.at_ : Int)) = (ls.take c.at_).map rowC := by rw [cut_to (by simp; omega), List.map_take]
    have c2 : cut (ls.map rowC) (some ((c.at_ : Int) + (c.many.length : Int))) none = (ls.drop (c.at_ + c.many.length)).map rowC := by
      have : (c.at_ : Int) + (c.many.length : Int) = ((c.at_ + c.many.length : Nat) : Int) := by omega
      rw [this, cut_from (by simp; omega), List.map_drop]
    simp [T_Method___init___L1, c1, c2, q2]
    refine ⟨by rw [sizeLine_eq]; omega, by rw [sizeLine_eq]; omega, ?_⟩
    rw [hK]
    have ih := mth_loop1 (D := D) (G := G) (d := d) (t0 := t0) (t1 := t1) (t2 := t2) (t3 := t3) (t5 := t5) (o7 := o7) (o8 := o8) (o12 := o12) (o13 := o13) hl cs (done ++ [(c.letter, called ls c)]) (some (.a (.str (ltS c.letter)))) (some (nC c.at_)) (some (rowsC c.many)) (by simpa using nd) (by simp at hs ⊢; omega) (fun x hx => hc x (List.mem_cons_of_mem _ hx)) (fun a b c' => by simpa using hD a b c')
    have es : leadsK (done ++ [(c.letter, called ls c)]) = leadsK done ++ [(.text (ltS c.letter), rowsC (called ls c))] := by simp
    rw [es] at ih
    have ev : rowsC (called ls c) = .tup ((ls.take c.at_).map rowC ++ (c.many.map rowC ++ (ls.drop (c.at_ + c.many.length)).map rowC)) := by unfold called; simp
    rw [ev] at ih
    simp at ih ⊢
    exact dnS.here ih
theorem sp_rows_through_i {ls : List (List Nat)} {n : Nat} {G : CH} {R : CVK} (hn : n ≤ 100) (hl : ls.length ≤ 1000) (hc : ∀ l ∈ ls, Ch n 1 l) (h : R (.tup [rowsC (leadRows n (List.range' 1 n) ls).1, rowC (leadRows n (List.range' 1 n) ls).2]) G) : sp_rows_through [nC n, rowsC ls] G R := ⟨ls, n, rfl, rfl, hn, hl, hc, h⟩
/-- the second loop: moves at d2, bodies at d3 -/
theorem mth_loop2 {D : CEnds} {M : Mth} (ok : MthOk M) {B : CH} {d1 d2 d3 q : Addr} {k1 : List (NestedKey × CV)} {all : List Str} (h1 : B d1 = some (.dic false k1)) (hk : ∀ c, dval k1 (.text (ltS c)) = (M.lead c).map fun l => rowsC l) (hq : B q = some (.lst (all.map CV.str))) (n12 : d1 ≠ d2) (n13 : d1 ≠ d3) (n23 : d2 ≠ d3) (nq2 : q ≠ d2) (nq3 : q ≠ d3)
    {t0 t2 t3 t4 t5 : CV} {o10 o11 : Option CV} : ∀ (ys done : List Str) (o9 o12 o13 : Option CV) (G : CH), (∀ a, a ≠ d2 → a ≠ d3 → G a = B a) → G d2 = some (.dic false (done.map fun y => (NestedKey.text y, rowC (M.move (codeS y))))) → G d3 = some (.dic false (done.map fun y => (NestedKey.text y, rowsC (M.rows (codeS y))))) →
    (done ++ ys).Nodup → done.length + ys.length ≤ 100 → (∀ y ∈ ys, ∃ c l, y = ltS c ∧ M.lead c = some l) →
    (∀ o9 o12 o13 G, (∀ a, a ≠ d2 → a ≠ d3 → G a = B a) → G d2 = some (.dic false ((done ++ ys).map fun y => (NestedKey.text y, rowC (M.move (codeS y))))) → G d3 = some (.dic false ((done ++ ys).map fun y => (NestedKey.text y, rowsC (M.rows (codeS y))))) →
      D.nx [some t0, some (nC M.n), some t2, some t3, some t4, some t5, some (.a (.ref d1)), some (.a (.ref d2)), some (.a (.ref d3)), o9, o10, o11, o12, o13] G) →
    forL (cgName 9) T_Method___init___L2 D (fun G => G.seq q = some (all.map CV.str)) (ys.map CV.str) [some t0, some (nC M.n), some t2, some t3, some t4, some t5, some (.a (.ref d1)), some (.a (.ref d2)), some (.a (.ref d3)), o9, o10, o11, o12, o13] G
  | [], done, o9, o12, o13, G, fr, e2, e3, _, _, _, hD => ⟨seq_of (by rw [fr q nq2 nq3, hq]), hD _ _ _ G fr (by simpa using e2) (by simpa using e3)⟩
  | y :: ys, done, o9, o12, o13, G, fr, e2, e3, nd, hl, hy, hD => by
    rw [List.map_cons]
    refine forL_step (seq_of (by rw [fr q nq2 nq3, hq])) fun K hK => ?_
    obtain ⟨c, l, rfl, el⟩ := hy y List.mem_cons_self
    obtain ⟨ll, lc⟩ := ok.lead_ok el
    have l32 := ok.l32
    have n8 := ok.n8
    have hb : ltS c ∉ done := fun z => (List.nodup_append.mp nd).2.2 _ z _ List.mem_cons_self rfl
    have s2 : (done.map fun y => (NestedKey.text y, rowC (M.move (codeS y)))).length < sizeLine := by rw [List.length_map, sizeLine_eq]; simp at hl; omega
    have s3 : (done.map fun y => (NestedKey.text y, rowsC (M.rows (codeS y)))).length < sizeLine := by rw [List.length_map, sizeLine_eq]; simp at hl; omega
    have g1 : G d1 = some (.dic false k1) := by rw [fr d1 n12 n13, h1]
    simp [T_Method___init___L2]
    rw [cIx_dic g1 keyOf_s rfl, hk, el]
    refine ⟨_, rfl, ?_⟩
    refine sp_rows_through_i (by omega) (by omega) lc ?_
    have er : (leadRows M.n (List.range' 1 M.n) l).1 = M.rows c := by unfold Mth.rows; rw [el]; rfl
    have em : (leadRows M.n (List.range' 1 M.n) l).2 = M.move c := by unfold Mth.move; rw [el]; rfl
    rw [er, em]
    simp
    rw [cSet_dic e3 keyOf_s rfl, dput_out (texts_out (f := fun c => rowsC (M.rows c)) hb)]
    refine ⟨s3, ?_⟩
    rw [cSet_dic (by rw [cup_ne n23]; exact e2) keyOf_s rfl, dput_out (texts_out (f := fun c => rowC (M.move c)) hb)]
    refine ⟨s2, ?_⟩
    rw [hK]
    refine dnS.here (mth_loop2 ok h1 hk hq n12 n13 n23 nq2 nq3 ys (done ++ [ltS c]) _ _ _ _ (fun a a2 a3 => by rw [cup_ne a2, cup_ne a3]; exact fr a a2 a3) (by rw [cup_same]; simp [codeS_lt]) (by rw [cup_ne (Ne.symm n23), cup_same]; simp [codeS_lt]) (by simpa using nd) (by simp at hl ⊢; omega) (fun z hz => hy z (List.mem_cons_of_mem _ hz)) (fun a b c' G' f1 f2 f3 => hD a b c' G' f1 (by simpa using f2) (by simpa using f3)))
theorem bigKs_map {α : Type} {f : α → NestedKey} : ∀ {l : List α}, (∀ x ∈ l, sp_deepN.bigK (f x) = false) → sp_deepN.bigKs (l.map f) = false
  | [], _ => rfl
  | x :: l, h => by
    rw [List.map_cons]
    unfold sp_deepN.bigKs
    rw [h x List.mem_cons_self, bigKs_map fun y hy => h y (List.mem_cons_of_mem _ hy)]
    rfl
theorem bigK_tup {ks : List NestedKey} (h : ks.length ≤ 1000) (hb : sp_deepN.bigKs ks = false) : sp_deepN.bigK (.tup ks) = false := by
  unfold sp_deepN.bigK
  rw [hb, decide_eq_false (by omega)]
  rfl
theorem deeps_map {G : CH} {d : Nat} {α : Type} {f : α → CV} {g : α → NestedKey} : ∀ {l : List α}, (∀ x ∈ l, DeepAt G d (f x) (g x)) → DeepAts G d (l.map f) (l.map g)
  | [], _ => .nil
  | x :: l, h => .cons (h x List.mem_cons_self) (deeps_map fun y hy => h y (List.mem_cons_of_mem _ hy))
theorem deep_row {G : CH} {d : Nat} (r : List Nat) : DeepAt G (d + 1) (rowC r) (rowK r) := .tup (deeps_map fun x _ => .num _)
def rowsK (ls : List (List Nat)) : NestedKey := .tup (ls.map rowK)
theorem nkV_rowsK (ls : List (List Nat)) : nkV (rowsK ls) = rowsC ls := by
  unfold rowsK nkV
  rw [nkVs_map, List.map_map]
  congr 1
  exact List.map_congr_left fun x _ => nkV_rowK x
theorem deep_rows {G : CH} {d : Nat} (ls : List (List Nat)) : DeepAt G (d + 2) (rowsC ls) (rowsK ls) := .tup (deeps_map fun x _ => deep_row x)
theorem big_row {r : List Nat} (h : r.length ≤ 1000) : sp_deepN.bigK (rowK r) = false := bigK_tup (by simpa using h) (bigKs_map fun x _ => rfl)
theorem big_rows {ls : List (List Nat)} (h : ls.length ≤ 1000) (hl : ∀ l ∈ ls, l.length ≤ 1000) : sp_deepN.bigK (rowsK ls) = false := bigK_tup (by simpa using h) (bigKs_map fun x hx => big_row (hl x hx))
def calK (c : Cal) : NestedKey := .tup [.text (ltS c.letter), .num (c.at_ : Int), rowsK c.many]
theorem nkV_calK (c : Cal) : nkV (calK c) = calC c := by
  unfold calK nkV
  rw [nkVs_map]
  simp only [List.map_cons, List.map_nil, nkV_rowsK]
  rfl
theorem deep_cal {G : CH} {d : Nat} (c : Cal) : DeepAt G (d + 3) (calC c) (calK c) := .tup (.cons (.text _) (.cons (.num _) (.cons (deep_rows _) .nil)))
def callsK (cs : List Cal) : NestedKey := .tup (cs.map calK)
theorem nkV_callsK (cs : List Cal) : nkV (callsK cs) = callsC cs := by
  unfold callsK nkV callsC
  rw [nkVs_map, List.map_map]
  congr 1
  exact List.map_congr_left fun x _ => nkV_calK x
theorem deep_calls {G : CH} {d : Nat} (cs : List Cal) : DeepAt G (d + 4) (callsC cs) (callsK cs) := .tup (deeps_map fun x _ => deep_cal x)
theorem sp_deep_i {x : CV} {k : NestedKey} {d : Nat} {G : CH} {R : CVK} (hd : d ≤ 6) (h : DeepAt G d x k) (hb : sp_deepN.bigK k = false) (hR : R (nkV k) G) : sp_deep [x, .a (.int 0)] G R := ⟨k, d, hd, h, Int.le_refl _, by omega, hb, hR⟩
theorem sp_check_plain_i {ls : List (List Nat)} {n : Nat} {G : CH} {R : CVK} (hn : n ≤ 100) (h1 : 1 ≤ ls.length) (h2 : ls.length ≤ 32) (hc : ∀ l ∈ ls, Ch n 1 l) (h : R (.a .non) G) : sp_check_plain [rowsC ls, nC n] G R := ⟨ls, n, rfl, rfl, hn, h1, h2, hc, h⟩
theorem sp_check_calls_i {cs : List Cal} {n size : Nat} {G : CH} {R : CVK} (hn : n ≤ 100) (hs : size ≤ 1000) (h5 : cs.length ≤ 5) (hc : ∀ c ∈ cs, CalOk n size c) (nd : (cs.map (·.letter)).Nodup) (h : R (.a .non) G) : sp_check_calls [callsC cs, nC n, nC size] G R := ⟨cs, n, size, rfl, rfl, rfl, hn, hs, h5, hc, nd, h⟩
theorem sp_first_row_i {n : Nat} {G : CH} {R : CVK} (hn : n ≤ 100) (h : R (rowC (List.range' 1 n)) G) : sp_first_row [nC n] G R := ⟨n, rfl, hn, h⟩
theorem MthOk.lens {M : Mth} (ok : MthOk M) : (∀ l ∈ M.ls, l.length ≤ 1000) ∧ ∀ c ∈ M.cs, ∀ l ∈ c.many, l.length ≤ 1000 := by
  have n8 := ok.n8
  exact ⟨fun l hl => by have := (ok.ch l hl).len; omega, fun c hc l hl => by have := ((ok.ok c hc).ch l hl).len; omega⟩
theorem MthOk.big_calls {M : Mth} (ok : MthOk M) : sp_deepN.bigK (callsK M.cs) = false := by
  have c5 := ok.c5
  have l32 := ok.l32
  refine bigK_tup (by simp; omega) (bigKs_map fun c hc => ?_)
  have hle := (ok.ok c hc).le
  refine bigK_tup (by simp) ?_
  unfold sp_deepN.bigKs sp_deepN.bigKs sp_deepN.bigKs sp_deepN.bigKs
  rw [big_rows (by omega) (ok.lens.2 c hc)]
  rfl
/-- sorted: a dict with texts as keys -/
theorem cSorted_dic {p : Addr} {kvs : List (NestedKey × CV)} {G : CH} {R : CVK} (h : G p = some (.dic false kvs)) {ks : List Str} (hk : kvs.map (·.1) = ks.map NestedKey.text) (hl : ks.length < 64) (hR : ∀ ys q, ys.Perm ks → sortedS ys = true → G q = none → R (.a (.ref q)) (cup G q (.lst (ys.map CV.str)))) : cSorted [.a (.ref p)] G R := by
  unfold cSorted
  simp only [h]
  exact ⟨ks, hk, hl, hR⟩
theorem mput0 {v0 : CV} : putC a_stage v0 [] = [(a_stage, v0)] := rfl
theorem mput1 {v0 v1 : CV} : putC a_plain v1 [(a_stage, v0)] = [(a_stage, v0), (a_plain, v1)] := rfl
theorem mput2 {v0 v1 v2 : CV} : putC a_calls v2 [(a_stage, v0), (a_plain, v1)] = [(a_stage, v0), (a_plain, v1), (a_calls, v2)] := rfl
theorem mput3 {v0 v1 v2 v3 : CV} : putC a_opening v3 [(a_stage, v0), (a_plain, v1), (a_calls, v2)] = [(a_stage, v0), (a_plain, v1), (a_calls, v2), (a_opening, v3)] := rfl
theorem mput4 {v0 v1 v2 v3 v4 : CV} : putC a_leads v4 [(a_stage, v0), (a_plain, v1), (a_calls, v2), (a_opening, v3)] = [(a_stage, v0), (a_plain, v1), (a_calls, v2), (a_opening, v3), (a_leads, v4)] := rfl
theorem mput5 {v0 v1 v2 v3 v4 v5 : CV} : putC a_row_of_letters v5 [(a_stage, v0), (a_plain, v1), (a_calls, v2), (a_opening, v3), (a_leads, v4)] = [(a_stage, v0), (a_plain, v1), (a_calls, v2), (a_opening, v3), (a_leads, v4), (a_row_of_letters, v5)] := rfl
theorem mput6 {v0 v1 v2 v3 v4 v5 v6 : CV} : putC a_moves v6 [(a_stage, v0), (a_plain, v1), (a_calls, v2), (a_opening, v3), (a_leads, v4), (a_row_of_letters, v5)] = [(a_stage, v0), (a_plain, v1), (a_calls, v2), (a_opening, v3), (a_leads, v4), (a_row_of_letters, v5), (a_moves, v6)] := rfl
theorem mput7 {v0 v1 v2 v3 v4 v5 v6 v7 : CV} : putC a_bodies v7 [(a_stage, v0), (a_plain, v1), (a_calls, v2), (a_opening, v3), (a_leads, v4), (a_row_of_letters, v5), (a_moves, v6)] = [(a_stage, v0), (a_plain, v1), (a_calls, v2), (a_opening, v3), (a_leads, v4), (a_row_of_letters, v5), (a_moves, v6), (a_bodies, v7)] := rfl
theorem p_Method___init__ : ∀ cs G R, sp_Method___init__ cs G R → T_Method___init__ (endR R) (cstart 14 cs) G := by
  intro cs G R h
  unfold sp_Method___init__ at h
  split at h
  · rename_i p i x y
    obtain ⟨M, rfl, rfl, rfl, hp, ok, h⟩ := h
    have n3 := ok.n3
    have n8 := ok.n8
    have e1 : (3 : Int) ≤ (M.n : Int) := by omega
    have e2 : (M.n : Int) ≤ 8 := by omega
    have l32 := ok.l32
    unfold T_Method___init__
    simp [cstart, sp_is_integer, isIntIn, e1, e2]
    refine sp_deep_i (by decide) (deep_rows (d := 0) M.ls) (big_rows (by omega) ok.lens.1) ?_
    rw [nkV_rowsK]
    refine sp_check_plain_i (by omega) ok.l1 ok.l32 ok.ch ?_
    refine sp_deep_i (by decide) (deep_calls (d := 0) M.cs) ok.big_calls ?_
    rw [nkV_callsK]
    simp
    refine sp_check_calls_i (by omega) (by omega) ok.c5 ok.ok ok.nd ?_
    simp [hp, mput0, mput1, mput2, cup_cup]
    refine sp_first_row_i (n := M.n) (by omega) ?_
    simp [mput3, cup_cup]
    intro d1 hd1
    refine ⟨_, rfl, ?_⟩
    have hpd : d1 ≠ p := fun z => by subst z; rw [cup_same] at hd1; cases hd1
    have hGd1 : G d1 = none := by rw [cup_ne hpd] at hd1; exact hd1
    generalize hB0 : cup G p (CO.ins c_Method [(a_stage, CV.a (V.int ↑M.n)), (a_plain, rowsC M.ls), (a_calls, callsC M.cs), (a_opening, rowC (List.range' 1 M.n))]) = B0 at hd1 ⊢
    have hB0p : B0 p = some (CO.ins c_Method [(a_stage, CV.a (V.int ↑M.n)), (a_plain, rowsC M.ls), (a_calls, callsC M.cs), (a_opening, rowC (List.range' 1 M.n))]) := by rw [← hB0, cup_same]
    rw [ltS_p]
    refine mth_loop1 (n := M.n) (d := d1) (G := B0) ok.l32 M.cs [(112, M.ls)] none none none (by
      have := ok.letters_nd
      unfold Mth.leads at this
      rw [List.map_cons, List.map_map] at this
      exact this) (by have := ok.c5; simp; omega) ok.ok (fun o9 o10 o11 => ?_)
    rw [show ([(112, M.ls)] ++ M.cs.map fun c => (c.letter, called M.ls c)) = M.leads from rfl]
    simp
    intro d2 hd2 d3 hd3
    have n12 : d1 ≠ d2 := fun z => by subst z; rw [cup_same] at hd2; cases hd2
    have hB2 : B0 d2 = none := by rw [cup_ne (Ne.symm n12)] at hd2; exact hd2
    have n23 : d2 ≠ d3 := fun z => by subst z; rw [cup_same] at hd3; cases hd3
    have n13 : d1 ≠ d3 := fun z => by subst z; rw [cup_ne n12, cup_same] at hd3; cases hd3
    have hB3 : B0 d3 = none := by rw [cup_ne (Ne.symm n23), cup_ne (Ne.symm n13)] at hd3; exact hd3
    have np2 : p ≠ d2 := fun z => by subst z; rw [hB0p] at hB2; cases hB2
    have np3 : p ≠ d3 := fun z => by subst z; rw [hB0p] at hB3; cases hB3
    have kl : (leadsK M.leads).map (·.1) = (M.leads.map fun q => ltS q.1).map NestedKey.text := by rw [List.map_map, List.map_map]; rfl
    have ll : (M.leads.map fun q => ltS q.1).length < 64 := by have := ok.c5; unfold Mth.leads; simp; omega
    have sn : (M.leads.map fun q => ltS q.1).Nodup := by
      have := ok.letters_nd
      have inj : ∀ l : List Nat, l.Nodup → (l.map ltS).Nodup := by
        intro l
        induction l with
        | nil => intro _; exact .nil
        | cons x l ih =>
          intro nd
          obtain ⟨a, b⟩ := List.nodup_cons.mp nd
          rw [List.map_cons]
          refine List.nodup_cons.mpr ⟨fun z => ?_, ih b⟩
          obtain ⟨y, hy, e⟩ := List.mem_map.mp z
          exact a (by rw [← ltS_inj e]; exact hy)
      have := inj _ this
      rw [List.map_map] at this
      exact this
    have mem_lead : ∀ y, y ∈ (M.leads.map fun q => ltS q.1) → ∃ c l, y = ltS c ∧ M.lead c = some l := by
      intro y hy
      obtain ⟨q, hq, rfl⟩ := List.mem_map.mp hy
      obtain ⟨b, hb⟩ := lookup_some_mem (l := M.leads) (c := q.1) (List.mem_map_of_mem hq)
      exact ⟨q.1, b, rfl, hb⟩
    refine cSorted_dic (kvs := leadsK M.leads) (by rw [cup_ne n13, cup_ne n12, cup_same]) kl ll fun ys q hperm _ hq => ?_
    have nq3 : q ≠ d3 := fun z => by subst z; rw [cup_same] at hq; cases hq
    have nq2 : q ≠ d2 := fun z => by subst z; rw [cup_ne nq3, cup_same] at hq; cases hq
    have nq1 : q ≠ d1 := fun z => by subst z; rw [cup_ne nq3, cup_ne nq2, cup_same] at hq; cases hq
    have nqp : q ≠ p := fun z => by subst z; rw [cup_ne nq3, cup_ne nq2, cup_ne nq1, hB0p] at hq; cases hq
    refine ⟨_, srcOf_ref cup_same, ?_⟩
    have yl : ys.length ≤ 100 := by rw [hperm.length_eq]; omega
    refine mth_loop2 ok (B := cup (cup (cup (cup B0 d1 (.dic false (leadsK M.leads))) d2 (.dic false [])) d3 (.dic false [])) q (.lst (ys.map CV.str))) (d1 := d1) (q := q) (k1 := leadsK M.leads) (all := ys) (by rw [cup_ne (Ne.symm nq1), cup_ne n13, cup_ne n12, cup_same]) (fun c => dval_letters M.leads) cup_same n12 n13 n23 nq2 nq3 ys [] _ _ _ _ (fun _ _ _ => rfl) (by rw [cup_ne (Ne.symm nq2), cup_ne n23, cup_same]; rfl) (by rw [cup_ne (Ne.symm nq3), cup_same]; rfl) (by simpa using hperm.nodup_iff.mpr sn) (by simpa using yl) (fun y hy => mem_lead y (hperm.mem_iff.mp hy)) (fun o9 o12 o13 G2 fr e2 e3 => ?_)
    have hp2 : G2 p = some (CO.ins c_Method [(a_stage, nC M.n), (a_plain, rowsC M.ls), (a_calls, callsC M.cs), (a_opening, rowC (List.range' 1 M.n))]) := by rw [fr p np2 np3, cup_ne (Ne.symm nqp), cup_ne np3, cup_ne np2, cup_ne (Ne.symm hpd), hB0p]
    have hd12 : G2 d1 = some (.dic false (leadsK M.leads)) := by rw [fr d1 n12 n13, cup_ne (Ne.symm nq1), cup_ne n13, cup_ne n12, cup_same]
    simp [hp2, mput4, cup_cup]
    refine cSorted_dic (kvs := leadsK M.leads) (by rw [cup_ne hpd, hd12]) kl ll fun zs q2 hperm2 _ hq2 => ?_
    rw [cTuple_l cup_same]
    have n2p : q2 ≠ p := fun z => by subst z; rw [cup_same] at hq2; cases hq2
    have n21 : q2 ≠ d1 := fun z => by subst z; rw [cup_ne hpd, hd12] at hq2; cases hq2
    have n22 : q2 ≠ d2 := fun z => by subst z; rw [cup_ne (Ne.symm np2), e2] at hq2; cases hq2
    have n23' : q2 ≠ d3 := fun z => by subst z; rw [cup_ne (Ne.symm np3), e3] at hq2; cases hq2
    refine ⟨[(a_stage, nC M.n), (a_plain, rowsC M.ls), (a_calls, callsC M.cs), (a_opening, rowC (List.range' 1 M.n)), (a_leads, .a (.ref d1))], by rw [cup_ne (Ne.symm n2p), cup_same], by simp, ?_⟩
    rw [mput5]
    simp [mput6, mput7, cup_cup]
    refine dnV.here (h _ (fun a o hap hao => ?_) ⟨ok, d1, d2, d3, leadsK M.leads, ys.map (fun y => (NestedKey.text y, rowC (M.move (codeS y)))), ys.map (fun y => (NestedKey.text y, rowsC (M.rows (codeS y)))), .tup (zs.map CV.str), by rw [cup_same], ?_, ?_, ?_, fun c => dval_letters M.leads, fun c => ?_, fun c => ?_⟩)
    · have a1 : a ≠ d1 := fun z => by subst z; rw [hGd1] at hao; cases hao
      have hb : B0 a = some o := by rw [← hB0, cup_ne hap]; exact hao
      have a2 : a ≠ d2 := fun z => by subst z; rw [hB2] at hb; cases hb
      have a3 : a ≠ d3 := fun z => by subst z; rw [hB3] at hb; cases hb
      have aq : a ≠ q := fun z => by subst z; rw [cup_ne nq3, cup_ne nq2, cup_ne nq1, hb] at hq; cases hq
      have hg : G2 a = some o := by rw [fr a a2 a3, cup_ne aq, cup_ne a3, cup_ne a2, cup_ne a1, hb]
      have aq2 : a ≠ q2 := fun z => by subst z; rw [cup_ne hap, hg] at hq2; cases hq2
      rw [cup_ne hap, cup_ne aq2, cup_ne hap, hg]
    · rw [cup_ne hpd, cup_ne (Ne.symm n21), cup_ne hpd, hd12]
    · rw [cup_ne (Ne.symm np2), cup_ne (Ne.symm n22), cup_ne (Ne.symm np2), e2, List.nil_append]
    · rw [cup_ne (Ne.symm np3), cup_ne (Ne.symm n23'), cup_ne (Ne.symm np3), e3, List.nil_append]
    · rw [dval_texts (f := fun c => rowC (M.move c)) ys (fun y hy => by
        obtain ⟨c, l, e, _⟩ := mem_lead y (hperm.mem_iff.mp hy)
        exact ⟨c, e⟩)]
      have : ltS c ∈ ys ↔ ∃ l, M.lead c = some l := by
        rw [hperm.mem_iff]
        constructor
        · intro hm
          obtain ⟨c', l, e, el⟩ := mem_lead _ hm
          rw [ltS_inj e]
          exact ⟨l, el⟩
        · rintro ⟨l, el⟩
          exact List.mem_map_of_mem (f := fun q => ltS q.1) (lookup_memV (show M.leads.lookup c = some l from el))
      by_cases hc : ltS c ∈ ys
      · obtain ⟨l, el⟩ := this.mp hc
        rw [if_pos hc, el]; rfl
      · rw [if_neg hc]
        cases el : M.lead c with
        | none => rfl
        | some l => exact absurd (this.mpr ⟨l, el⟩) hc
    · rw [dval_texts (f := fun c => rowsC (M.rows c)) ys (fun y hy => by
        obtain ⟨c, l, e, _⟩ := mem_lead y (hperm.mem_iff.mp hy)
        exact ⟨c, e⟩)]
      have : ltS c ∈ ys ↔ ∃ l, M.lead c = some l := by
        rw [hperm.mem_iff]
        constructor
        · intro hm
          obtain ⟨c', l, e, el⟩ := mem_lead _ hm
          rw [ltS_inj e]
          exact ⟨l, el⟩
        · rintro ⟨l, el⟩
          exact List.mem_map_of_mem (f := fun q => ltS q.1) (lookup_memV (show M.leads.lookup c = some l from el))
      by_cases hc : ltS c ∈ ys
      · obtain ⟨l, el⟩ := this.mp hc
        rw [if_pos hc, el]; rfl
      · rw [if_neg hc]
        cases el : M.lead c with
        | none => rfl
        | some l => exact absurd (this.mpr ⟨l, el⟩) hc
  · exact h.elim
/-- a text of these signs -/
abbrev txt (c : List Nat) : Str := ⟨c.toArray⟩
abbrev Tb := List (List (Nat × Nat))
abbrev pairC (q : Nat × Nat) : CV := .tup [.a (.str (ltS q.1)), nC q.2]
abbrev tbRowC (r : List (Nat × Nat)) : CV := .tup (r.map pairC)
def tbC (t : Tb) : CV := .tup (t.map tbRowC)
def pairK (q : Nat × Nat) : NestedKey := .tup [.text (ltS q.1), .num (q.2 : Int)]
def tbRowK (r : List (Nat × Nat)) : NestedKey := .tup (r.map pairK)
def tbK (t : Tb) : NestedKey := .tup (t.map tbRowK)
structure TbOk (M : Mth) (t : Tb) : Prop where
  l1 : 1 ≤ t.length
  l4 : t.length ≤ 4
  row : ∀ r ∈ t, r.length = M.n
  pr : ∀ r ∈ t, ∀ q ∈ r, (M.lead q.1).isSome = true ∧ q.2 < t.length
def sp_is_table_row : CSp := fun cs G R => match cs with
  | [x, .a (.ref p), .a (.int i)] => ∃ (r : List (Nat × Nat)) (M : Mth) (m : Nat), x = tbRowC r ∧ i = m ∧ m ≤ 4 ∧ MethAt G p M ∧ r.length = M.n ∧ (∀ q ∈ r, (M.lead q.1).isSome = true ∧ q.2 < m) ∧ R (.a (.bl true)) G
  | _ => False
def sp_told_table : CSp := fun cs G R => match cs with
  | [.a (.ref p), x] => ∃ (t : Tb) (M : Mth) (d : Nat), d ≤ 6 ∧ DeepAt G d x (tbK t) ∧ MethAt G p M ∧ TbOk M t ∧ R (tbC t) G
  | _ => False
structure Con where
  M : Mth
  bell : Nat
  t : Tb
structure ConOk (C : Con) : Prop where
  m : MthOk C.M
  b1 : 1 ≤ C.bell
  b2 : C.bell ≤ C.M.n
  t : TbOk C.M C.t
def ConAt (G : CH) (p : Addr) (C : Con) : Prop := ConOk C ∧ ∃ mp, MethAt G mp C.M ∧ G p = some (.ins c_Conductor [(a_method, .a (.ref mp)), (a_bell, nC C.bell), (a_table, tbC C.t)])
theorem ConAt.mono {G G' : CH} {p : Addr} {C : Con} (h : ConAt G p C) (s : Sub G G') : ConAt G' p C := by
  obtain ⟨h0, mp, h1, h2⟩ := h
  exact ⟨h0, mp, h1.mono s, s _ _ h2⟩
def sp_Conductor___init__ : CSp := fun cs G R => match cs with
  | [.a (.ref p), .a (.ref mp), .a (.int b), x] => ∃ (C : Con) (d : Nat), b = C.bell ∧ ConOk C ∧ d ≤ 6 ∧ DeepAt G d x (tbK C.t) ∧ MethAt G mp C.M ∧ G p = some (.ins c_Conductor []) ∧
    R (.a .non) (cup G p (.ins c_Conductor [(a_method, .a (.ref mp)), (a_bell, nC C.bell), (a_table, tbC C.t)]))
  | _ => False
/-- what he does in a memory at a row -/
def Con.cell (C : Con) (m : Nat) (r : List Nat) : Nat × Nat := ((C.t.getD m []).getD (posIn C.bell r) (0, 0))
def Con.step (C : Con) (m : Nat) (r : List Nat) : Nat × Nat × List Nat := ((C.cell m r).1, (C.cell m r).2, timesR r (C.M.move (C.cell m r).1))
def sp_Conductor_goes_on : CSp := fun cs G R => match cs with
  | [.a (.ref p), .a (.int i), x] => ∃ (C : Con) (m : Nat) (r : List Nat), i = m ∧ x = rowC r ∧ ConAt G p C ∧ m < C.t.length ∧ Perm C.M.n r ∧ R (.tup [.a (.str (ltS (C.step m r).1)), nC (C.step m r).2.1, rowC (C.step m r).2.2]) G
  | _ => False
inductive Out where
  | rnd (c : List Nat) | lop (a b : List Nat)
  deriving DecidableEq
def outC : Out → CV
  | .rnd c => .tup [.a (.str (Str.ofString "round")), .a (.str (txt c))]
  | .lop a b => .tup [.a (.str (Str.ofString "loop")), .a (.str (txt a)), .a (.str (txt b))]
/-- the walk from a first row: the states met, the letters called -/
def Con.go (C : Con) (first : List Nat) : Nat → List (Nat × List Nat) → List Nat → Nat → List Nat → Option Out
  | 0, _, _, _, _ => none
  | f + 1, met, cal, m, r =>
    if (C.step m r).2.2 = first then some (.rnd (cal ++ [(C.step m r).1]))
    else if ((C.step m r).2.1, (C.step m r).2.2) ∈ met then some (.lop ((cal ++ [(C.step m r).1]).take (posIn ((C.step m r).2.1, (C.step m r).2.2) met)) ((cal ++ [(C.step m r).1]).drop (posIn ((C.step m r).2.1, (C.step m r).2.2) met)))
    else C.go first f (met ++ [((C.step m r).2.1, (C.step m r).2.2)]) (cal ++ [(C.step m r).1]) (C.step m r).2.1 (C.step m r).2.2
def sp_Conductor_outcome : CSp := fun cs G R => match cs with
  | [.a (.ref p), x] => ∃ (C : Con) (first : List Nat) (f : Nat) (o : Out), ConAt G p C ∧ ((x = .a .non ∧ first = List.range' 1 C.M.n) ∨ rowAt G x first) ∧ Perm C.M.n first ∧ f ≤ 1000 ∧ C.go first f [(0, first)] [] 0 first = some o ∧ R (outC o) G
  | _ => False
def sp_check_calling : CSp := fun cs G R => match cs with
  | [.a (.ref p), .a (.str z)] => ∃ (M : Mth) (c : List Nat), z = txt c ∧ MethAt G p M ∧ c.length ≤ 400 ∧ (∀ l ∈ c, (M.lead l).isSome = true) ∧ R (.a .non) G
  | _ => False
def T_is_table_row_L1 : CTS := (cSeq (cIfS (cOr (cNot (cTruth (cIsi ["tuple"] (cVar 3)))) (cTest (cOp cNe (cCB (cLen []) (cCons (cVar 3) cNil)) (cC (.int 2))))) (cRet (cC (.bl false))) cNext)
    (cSeq (cAsg (cVar 3) (cgTup 2 (cgCons (cgName 4) (cgCons (cgName 5) cgNil))))
    (cIfS (cOr (cTest (cOp (InT ((c_Method, sp_Method___contains__) :: []) true) (cVar 4) (cVar 1))) (cNot (cTruth (cCall sp_is_integer [] (cCons (cVar 5) (cCons (cC (.int 0)) (cCons (cOp cSub (cVar 2) (cC (.int 1))) cNil))))))) (cRet (cC (.bl false))) cNext)))
/-- is_table_row -/
def T_is_table_row : CTS := (cSeq (cIfS (cOr (cNot (cTruth (cIsi ["tuple"] (cVar 0)))) (cTest (cOp cNe (cCB (cLen []) (cCons (cVar 0) cNil)) (cAttr a_stage [] (cVar 1))))) (cRet (cC (.bl false))) cNext)
    (cSeq (cFor (ciVal (cVar 0)) (cgName 3) T_is_table_row_L1)
    (cRet (cC (.bl true)))))
def T_told_table_L1 : CTS := (cIfS (cNot (cTruth (cCall sp_is_table_row [] (cCons (cVar 4) (cCons (cVar 0) (cCons (cCB (cLen []) (cCons (cVar 2) cNil)) cNil)))))) cNever cNext)
/-- told_table -/
def T_told_table : CTS := (cSeq (cSetN 2 (cCall sp_deep [.a (.int 0)] (cCons (cVar 1) cNil)))
    (cSeq (cIfS (cOr (cNot (cTruth (cIsi ["tuple"] (cVar 2)))) (cNot (cTest (cChain cLe cLe (cC (.int 1)) (cCB (cLen []) (cCons (cVar 2) cNil)) (cC (.int 4)))))) cNever cNext)
    (cSeq (cFor (ciEnum (cVar 2)) (cgTup 2 (cgCons (cgName 3) (cgCons (cgName 4) cgNil))) T_told_table_L1)
    (cRet (cVar 2)))))
/-- Conductor.__init__ -/
def T_Conductor___init__ : CTS := (cSeq (cIfS (cNot (cTruth (cCall sp_is_integer [] (cCons (cVar 2) (cCons (cC (.int 1)) (cCons (cAttr a_stage [] (cVar 1)) cNil)))))) cNever cNext)
    (cSeq (cFld c_Conductor a_method (cVar 0) (cVar 1))
    (cSeq (cFld c_Conductor a_bell (cVar 0) (cVar 2))
    (cFld c_Conductor a_table (cVar 0) (cCall sp_told_table [] (cCons (cVar 1) (cCons (cVar 3) cNil)))))))
/-- Conductor.goes_on -/
def T_Conductor_goes_on : CTS := (cSeq (cAsg (cOp (cIx []) (cOp (cIx []) (cAttr a_table [] (cVar 0)) (cVar 1)) (cOp cSub (cCall sp_place_in [] (cCons (cVar 2) (cCons (cAttr a_bell [] (cVar 0)) cNil))) (cC (.int 1)))) (cgTup 2 (cgCons (cgName 3) (cgCons (cgName 4) cgNil))))
    (cRet (cTup (cCons (cVar 3) (cCons (cVar 4) (cCons (cCall sp_times [] (cCons (cVar 2) (cCons (cOp (cIx []) (cAttr a_moves [] (cAttr a_method [] (cVar 0))) (cVar 3)) cNil))) cNil))))))
def T_Conductor_outcome_L1 : CTS := (cSeq (cAsg (cMeth ((c_Conductor, sp_Conductor_goes_on, []) :: []) (cVar 0) (cCons (cVar 5) (cCons (cVar 6) cNil))) (cgTup 3 (cgCons (cgName 7) (cgCons (cgName 5) (cgCons (cgName 6) cgNil)))))
    (cSeq (cDrop (cBM ["list"] kAppend (cVar 4) (cCons (cVar 7) cNil)))
    (cSeq (cIfS (cTest (cOp cEq (cVar 6) (cVar 2))) (cRet (cTup (cCons (cC (.str "round")) (cCons (cBM ["str"] kJoin (cC (.str "")) (cCons (cVar 4) cNil)) cNil)))) cNext)
    (cSeq (cIfS (cTest (cOp (InT [] false) (cTup (cCons (cVar 5) (cCons (cVar 6) cNil))) (cVar 3))) (cSeq (cSetN 8 (cOp (cIx []) (cVar 3) (cTup (cCons (cVar 5) (cCons (cVar 6) cNil)))))
    (cRet (cTup (cCons (cC (.str "loop")) (cCons (cBM ["str"] kJoin (cC (.str "")) (cCons (cSlice cSl (cVar 4) cNoPart (cPart (cVar 8))) cNil)) (cCons (cBM ["str"] kJoin (cC (.str "")) (cCons (cSlice cSl (cVar 4) (cPart (cVar 8)) cNoPart) cNil)) cNil)))))) cNext)
    (cAsg (cCB (cLen []) (cCons (cVar 4) cNil)) (cgSub (cVar 3) (cTup (cCons (cVar 5) (cCons (cVar 6) cNil))) cSet))))))
/-- Conductor.outcome -/
def T_Conductor_outcome : CTS := (cSeq (cSetN 2 (cIf (cTest (cOp cIs (cVar 1) (cC .non))) (cAttr a_opening [] (cAttr a_method [] (cVar 0))) (cCall sp_told_row [] (cCons (cVar 1) (cCons (cAttr a_stage [] (cAttr a_method [] (cVar 0))) cNil)))))
    (cSeq (cSetN 3 (cDic1 true (cTup (cCons (cC (.int 0)) (cCons (cVar 2) cNil))) (cC (.int 0))))
    (cSeq (cSetN 4 (cLst cNil))
    (cSeq (cSetN 5 (cC (.int 0)))
    (cSeq (cSetN 6 (cVar 2))
    (cWhile (cTruth (cC (.bl true))) T_Conductor_outcome_L1))))))
def T_check_calling_L1 : CTS := (cIfS (cTest (cOp (InT [] true) (cVar 3) (cAttr a_moves [] (cVar 0)))) cNever cNext)
/-- check_calling -/
def T_check_calling : CTS := (cSeq (cIfS (cOr (cNot (cTruth (cIsi ["str"] (cVar 1)))) (cTest (cOp cGt (cCB (cLen []) (cCons (cVar 1) cNil)) (cC (.int 400))))) cNever cNext)
    (cFor (ciEnum (cVar 1)) (cgTup 2 (cgCons (cgName 2) (cgCons (cgName 3) cgNil))) T_check_calling_L1))
theorem InT_own {own : Tab} {neg : Bool} {p : Addr} {c : Nat} {fs : List (Nat × CV)} {sp : CSp} {x : CV} {G : CH} {R : CVK} (h : G p = some (.ins c fs)) (l : own.lookup c = some sp) (hR : sp [.a (.ref p), x] G fun v G' => ∃ b, v = .a (.bl b) ∧ R (.a (.bl (xr neg b))) G') : InT own neg x (.a (.ref p)) G R := by
  unfold InT
  simp only [h, l]
  exact hR
theorem MethAt.ins {G : CH} {p : Addr} {M : Mth} (h : MethAt G p M) : ∃ d1 d2 d3 v, G p = some (.ins c_Method [(a_stage, nC M.n), (a_plain, rowsC M.ls), (a_calls, callsC M.cs), (a_opening, rowC (List.range' 1 M.n)), (a_leads, .a (.ref d1)), (a_row_of_letters, v), (a_moves, .a (.ref d2)), (a_bodies, .a (.ref d3))]) := by
  obtain ⟨_, d1, d2, d3, _, _, _, v, e, _⟩ := h
  exact ⟨d1, d2, d3, v, e⟩
/-- method.stage -/
theorem MethAt.stage {G : CH} {p : Addr} {M : Mth} {tab : List (Nat × CSp)} {R : CVK} (h : MethAt G p M) (hR : R (nC M.n) G) : kAttr a_stage tab (.a (.ref p)) G R := by
  obtain ⟨d1, d2, d3, v, e⟩ := h.ins
  exact kAttr_fld e (v := nC M.n) rfl hR
theorem MethAt.opening {G : CH} {p : Addr} {M : Mth} {tab : List (Nat × CSp)} {R : CVK} (h : MethAt G p M) (hR : R (rowC (List.range' 1 M.n)) G) : kAttr a_opening tab (.a (.ref p)) G R := by
  obtain ⟨d1, d2, d3, v, e⟩ := h.ins
  exact kAttr_fld e (v := rowC (List.range' 1 M.n)) rfl hR
/-- method.moves, a dict -/
theorem MethAt.moves {G : CH} {p : Addr} {M : Mth} {tab : List (Nat × CSp)} {R : CVK} (h : MethAt G p M) (hR : ∀ d k2, G d = some (.dic false k2) → (∀ c, dval k2 (.text (ltS c)) = (M.lead c).map fun _ => rowC (M.move c)) → R (.a (.ref d)) G) : kAttr a_moves tab (.a (.ref p)) G R := by
  obtain ⟨_, d1, d2, d3, k1, k2, k3, v, e, e1, e2, e3, r1, r2, r3⟩ := h
  exact kAttr_fld e (v := .a (.ref d2)) rfl (hR d2 k2 e2 r2)
theorem MethAt.bodies {G : CH} {p : Addr} {M : Mth} {tab : List (Nat × CSp)} {R : CVK} (h : MethAt G p M) (hR : ∀ d k3, G d = some (.dic false k3) → (∀ c, dval k3 (.text (ltS c)) = (M.lead c).map fun _ => rowsC (M.rows c)) → R (.a (.ref d)) G) : kAttr a_bodies tab (.a (.ref p)) G R := by
  obtain ⟨_, d1, d2, d3, k1, k2, k3, v, e, e1, e2, e3, r1, r2, r3⟩ := h
  exact kAttr_fld e (v := .a (.ref d3)) rfl (hR d3 k3 e3 r3)
/-- letter in method -/
theorem MethAt.has {G : CH} {p : Addr} {M : Mth} {neg : Bool} {c : Nat} {R : CVK} (h : MethAt G p M) (hR : R (.a (.bl (xr neg (M.lead c).isSome))) G) : InT ((c_Method, sp_Method___contains__) :: []) neg (.a (.str (ltS c))) (.a (.ref p)) G R := by
  obtain ⟨d1, d2, d3, v, e⟩ := h.ins
  refine InT_own e (sp := sp_Method___contains__) rfl ?_
  exact ⟨M, c, rfl, h, _, rfl, hR⟩
theorem p_is_table_row : ∀ cs G R, sp_is_table_row cs G R → T_is_table_row (endR R) (cstart 6 cs) G := by
  intro cs G R h
  unfold sp_is_table_row at h
  split at h
  · rename_i x p i
    obtain ⟨r, M, m, rfl, rfl, m4, hM, hl, hq, h⟩ := h
    unfold T_is_table_row
    have loop : ∀ (r : List (Nat × Nat)) (o3 o4 o5 : Option CV) (t0 : CV) (D : CEnds), (∀ τ', D.nx τ' G) → (∀ q ∈ r, (M.lead q.1).isSome = true ∧ q.2 < m) → forL (cgName 3) T_is_table_row_L1 D (fun _ => True) (r.map pairC) [some t0, some (.a (.ref p)), some (nC m), o3, o4, o5] G := by
      intro r
      induction r with
      | nil => intro o3 o4 o5 t0 D hD _; exact ⟨trivial, hD _⟩
      | cons q r ih =>
        intro o3 o4 o5 t0 D hD hq
        rw [List.map_cons]
        refine forL_step trivial fun K hK => ?_
        obtain ⟨q1, q2⟩ := hq q List.mem_cons_self
        have e1 : (q.2 : Int) ≤ (m : Int) - 1 := by omega
        simp [T_is_table_row_L1, isT]
        refine hM.has ?_
        rw [q1]
        simp [xr, sp_is_integer, isIntIn, e1]
        rw [hK]
        exact dnS.here (ih _ _ _ _ _ hD fun x hx => hq x (List.mem_cons_of_mem _ hx))
    simp [cstart, isT]
    refine hM.stage ?_
    simp [hl]
    exact loop r none none none _ _ (fun τ' => .of h .rfl') hq
  · exact h.elim
theorem nkV_pairK (q : Nat × Nat) : nkV (pairK q) = pairC q := by
  unfold pairK nkV
  rw [nkVs_map]
  rfl
theorem nkV_tbRowK (r : List (Nat × Nat)) : nkV (tbRowK r) = tbRowC r := by
  unfold tbRowK nkV
  rw [nkVs_map, List.map_map]
  exact congrArg CV.tup <| List.map_congr_left fun x _ => nkV_pairK x
theorem nkV_tbK (t : Tb) : nkV (tbK t) = tbC t := by
  unfold tbK nkV tbC
  rw [nkVs_map, List.map_map]
  exact congrArg CV.tup <| List.map_congr_left fun x _ => nkV_tbRowK x
theorem big_tb {t : Tb} (h : t.length ≤ 1000) (hr : ∀ r ∈ t, r.length ≤ 1000) : sp_deepN.bigK (tbK t) = false :=
  bigK_tup (by simpa using h) (bigKs_map fun r hm => bigK_tup (by simpa using hr r hm) (bigKs_map fun q _ => rfl))
theorem sp_is_table_row_i {r : List (Nat × Nat)} {M : Mth} {m : Nat} {p : Addr} {G : CH} {R : CVK} (m4 : m ≤ 4) (hM : MethAt G p M) (hl : r.length = M.n) (hq : ∀ q ∈ r, (M.lead q.1).isSome = true ∧ q.2 < m) (h : R (.a (.bl true)) G) : sp_is_table_row [tbRowC r, .a (.ref p), nC m] G R := ⟨r, M, m, rfl, rfl, m4, hM, hl, hq, h⟩
theorem p_told_table : ∀ cs G R, sp_told_table cs G R → T_told_table (endR R) (cstart 5 cs) G := by
  intro cs G R h
  unfold sp_told_table at h
  split at h
  · rename_i p x
    obtain ⟨t, M, d, hd, ha, hM, ok, h⟩ := h
    have n8 := hM.1.n8
    unfold T_told_table
    have loop : ∀ (rs : Tb) (i : Nat) (o3 o4 : Option CV) (t1 : CV) (D : CEnds), (∀ o3 o4, D.nx [some (.a (.ref p)), some t1, some (tbC t), o3, o4] G) → (∀ r ∈ rs, r ∈ t) → forL (cgTup 2 (cgCons (cgName 3) (cgCons (cgName 4) cgNil))) T_told_table_L1 D (fun _ => True) (enumAt i (rs.map tbRowC)) [some (.a (.ref p)), some t1, some (tbC t), o3, o4] G := by
      intro rs
      induction rs with
      | nil => intro i o3 o4 t1 D hD _; exact ⟨trivial, hD _ _⟩
      | cons r rs ih =>
        intro i o3 o4 t1 D hD hq
        rw [List.map_cons, enumAt_cons]
        refine forL_step trivial fun K hK => ?_
        simp [T_told_table_L1]
        unfold tbC
        simp
        refine sp_is_table_row_i ok.l4 hM (ok.row r (hq r List.mem_cons_self)) (ok.pr r (hq r List.mem_cons_self)) ?_
        simp
        rw [hK]
        exact dnS.here (ih _ _ _ _ _ hD fun x hx => hq x (List.mem_cons_of_mem _ hx))
    have l1 := ok.l1
    have l4 := ok.l4
    have e1 : (1 : Int) ≤ (t.length : Int) := by omega
    have e2 : (t.length : Int) ≤ 4 := by omega
    simp [cstart]
    refine sp_deep_i hd ha (big_tb (by omega) fun r hr => by rw [ok.row r hr]; omega) ?_
    rw [nkV_tbK]
    simp [isT]
    have ht : ∀ {R : CSrc → CH → Prop}, R ⟨enumAt 0 (t.map tbRowC), fun _ => True⟩ G → kEnum R (tbC t) G := fun h => h
    have hlen : ∀ {R : CVK}, R (.a (.int (t.length : Int))) G → cLen [] [tbC t] G R := fun h => by unfold tbC; simpa using h
    have hty : cTy G (tbC t) = some "tuple" := rfl
    simp [hty]
    refine hlen ?_
    simp [e1, e2]
    refine ht ?_
    exact loop t 0 none none _ _ (fun o3 o4 => by simp; exact .of h .rfl') fun r hr => hr
  · exact h.elim
theorem sp_told_table_i {x : CV} {t : Tb} {M : Mth} {d : Nat} {p : Addr} {G : CH} {R : CVK} (hd : d ≤ 6) (ha : DeepAt G d x (tbK t)) (hM : MethAt G p M) (ok : TbOk M t) (h : R (tbC t) G) : sp_told_table [.a (.ref p), x] G R := ⟨t, M, d, hd, ha, hM, ok, h⟩
theorem put_new {G : CH} {p : Addr} {o u : CO} (h : G p = some o) (hn : ∀ a, G a = some u → a ≠ p → True) : True := trivial
/-- facts stand when an instance without fields is written -/
theorem DeepAt.put {G : CH} {p : Addr} {c : Nat} {fs : List (Nat × CV)} {o : CO} (hp : G p = some (.ins c fs)) : (∀ {d : Nat} {x : CV} {k : NestedKey}, DeepAt G d x k → DeepAt (cup G p o) d x k) := by
  have key : ∀ q xs, G q = some (.lst xs) → (cup G p o) q = some (.lst xs) := fun q xs e => by
    have : q ≠ p := fun z => by subst z; rw [hp] at e; cases e
    rw [cup_ne this]; exact e
  intro d x k h
  exact DeepAt.rec (motive_1 := fun d x k _ => DeepAt (cup G p o) d x k) (motive_2 := fun d xs ks _ => DeepAts (cup G p o) d xs ks) (fun i => .num i) (fun z => .text z) (fun _ ih => .tup ih) (fun e _ ih => .lst (key _ _ e) ih) .nil (fun _ _ a b => .cons a b) h
theorem MethAt.put {G : CH} {p mp : Addr} {M : Mth} {c : Nat} {fs : List (Nat × CV)} {o : CO} (h : MethAt G mp M) (hp : G p = some (.ins c fs)) (hc : c ≠ c_Method) : MethAt (cup G p o) mp M := by
  obtain ⟨h0, d1, d2, d3, k1, k2, k3, v, e0, e1, e2, e3, r⟩ := h
  have n0 : mp ≠ p := fun z => by subst z; rw [hp] at e0; injection e0 with e0; injection e0 with e0; exact hc e0
  have n1 : d1 ≠ p := fun z => by subst z; rw [hp] at e1; cases e1
  have n2 : d2 ≠ p := fun z => by subst z; rw [hp] at e2; cases e2
  have n3 : d3 ≠ p := fun z => by subst z; rw [hp] at e3; cases e3
  exact ⟨h0, d1, d2, d3, k1, k2, k3, v, by rw [cup_ne n0]; exact e0, by rw [cup_ne n1]; exact e1, by rw [cup_ne n2]; exact e2, by rw [cup_ne n3]; exact e3, r⟩
theorem cput0 {v : CV} : putC a_method v [] = [(a_method, v)] := rfl
theorem cput1 {v w : CV} : putC a_bell w [(a_method, v)] = [(a_method, v), (a_bell, w)] := rfl
theorem cput2 {v w u : CV} : putC a_table u [(a_method, v), (a_bell, w)] = [(a_method, v), (a_bell, w), (a_table, u)] := rfl
theorem p_Conductor___init__ : ∀ cs G R, sp_Conductor___init__ cs G R → T_Conductor___init__ (endR R) (cstart 4 cs) G := by
  intro cs G R h
  unfold sp_Conductor___init__ at h
  split at h
  · rename_i p mp b x
    obtain ⟨C, d, rfl, ok, hd, ha, hM, hp, h⟩ := h
    unfold T_Conductor___init__
    have e1 : (1 : Int) ≤ (C.bell : Int) := by have := ok.b1; omega
    have e2 : (C.bell : Int) ≤ (C.M.n : Int) := by have := ok.b2; omega
    simp [cstart]
    refine hM.stage ?_
    simp [sp_is_integer, isIntIn, e1, e2, hp, cput0, cput1, cup_cup]
    refine sp_told_table_i hd (DeepAt.put hp ha) (hM.put hp (by decide)) ok.t ?_
    simp [cput2, cup_cup]
    exact .of h .rfl'
  · exact h.elim
theorem posIn_get {α : Type} [DecidableEq α] {r : α} : ∀ {l : List α}, r ∈ l → l[posIn r l]? = some r
  | x :: l, h => by
    unfold posIn
    by_cases e : x = r
    · rw [if_pos e, e]; rfl
    · rw [if_neg e, List.getElem?_cons_succ]
      rcases List.mem_cons.mp h with z | z
      · exact absurd z.symm e
      · exact posIn_get z
theorem posIn_lt {α : Type} [DecidableEq α] {r : α} {l : List α} (h : r ∈ l) : posIn r l < l.length := (List.getElem?_eq_some_iff.mp (posIn_get h)).1
theorem perm_mem {n : Nat} {r : List Nat} (pr : Perm n r) {b : Nat} (h1 : 1 ≤ b) (h2 : b ≤ n) : b ∈ r := by
  -- all of 1..n stand in r: else its items are n apart ones among n - 1
  have key : ∀ (l s : List Nat), l.Nodup → (∀ x ∈ l, x ∈ s) → l.length ≤ s.length := by
    intro l
    induction l with
    | nil => intro s _ _; simp
    | cons x l ih =>
      intro s nd hs
      obtain ⟨a, c⟩ := List.nodup_cons.mp nd
      have hx : x ∈ s := hs x List.mem_cons_self
      have := ih (s.erase x) c fun y hy => (List.mem_erase_of_ne (fun e => a (by rw [← e]; exact hy))).mpr (hs y (List.mem_cons_of_mem _ hy))
      rw [List.length_erase_of_mem hx] at this
      have : 0 < s.length := List.length_pos_of_mem hx
      simp
      omega
  by_cases h : b ∈ r
  · exact h
  · have := key r ((List.range' 1 n).erase b) pr.nd fun x hx => (List.mem_erase_of_ne (fun e => h (by rw [← e]; exact hx))).mpr (by rw [List.mem_range'_1]; have := pr.rng x hx; omega)
    rw [List.length_erase_of_mem (by rw [List.mem_range'_1]; omega), pr.len] at this
    simp at this
    omega
theorem MthOk.move_perm {M : Mth} (ok : MthOk M) (c : Nat) : Perm M.n (M.move c) := by
  unfold Mth.move
  have go : ∀ (ls : List (List Nat)) (r : List Nat), Perm M.n r → (∀ l ∈ ls, Ch M.n 1 l) → Perm M.n (leadRows M.n r ls).2 := by
    intro ls
    induction ls with
    | nil => intro r pr _; exact pr
    | cons l ls ih =>
      intro r pr hl
      exact ih _ (times_perm pr (mv_perm (hl l List.mem_cons_self))) fun x hx => hl x (List.mem_cons_of_mem _ hx)
  cases e : M.lead c with
  | none => exact go [] _ (rounds_perm _) fun l hl => by cases hl
  | some l => exact go l _ (rounds_perm _) (ok.lead_ok e).2
theorem sp_place_in_i {r : List Nat} {b j : Nat} {G : CH} {R : CVK} (h : r[j]? = some b) (nd : r.Nodup) (hR : R (nC (j + 1)) G) : sp_place_in [rowC r, nC b] G R := ⟨r, b, j, rfl, rfl, h, nd, hR⟩
theorem cIx_at {xs : List CV} {i : Nat} {c : CV} {G : CH} {R : CVK} (h : xs[i]? = some c) (hR : R c G) : cIx [] (.tup xs) (nC i) G R := by
  rw [cIx_t, atI_nat h]
  exact hR
theorem cIx_pred {xs : List CV} {i : Nat} {c : CV} {G : CH} {R : CVK} (h : xs[i]? = some c) (hR : R c G) : cIx [] (.tup xs) (.a (.int (((i + 1 : Nat) : Int) - 1))) G R := by
  have e : (((i + 1 : Nat) : Int) - 1) = (i : Int) := by omega
  rw [e]
  exact cIx_at h hR
theorem getD_eq {α : Type} {l : List α} {i : Nat} {d : α} (h : i < l.length) : l[i]? = some (l.getD i d) := by
  rw [getD_at h, List.getElem?_eq_getElem h]
theorem Con.cell_ok {C : Con} (ok : ConOk C) {m : Nat} {r : List Nat} (hm : m < C.t.length) (pr : Perm C.M.n r) :
    ∃ row, C.t[m]? = some row ∧ row[posIn C.bell r]? = some (C.cell m r) ∧ (C.M.lead (C.cell m r).1).isSome = true ∧ (C.cell m r).2 < C.t.length ∧ r[posIn C.bell r]? = some C.bell := by
  have hb := perm_mem pr ok.b1 ok.b2
  have hp := posIn_lt hb
  have e1 : C.t[m]? = some (C.t.getD m []) := getD_eq hm
  have hrow : C.t.getD m [] ∈ C.t := List.mem_of_getElem? e1
  have hl := ok.t.row _ hrow
  have e2 : (C.t.getD m [])[posIn C.bell r]? = some (C.cell m r) := getD_eq (by rw [hl, ← pr.len]; exact hp)
  obtain ⟨a, b⟩ := ok.t.pr _ hrow _ (List.mem_of_getElem? e2)
  exact ⟨_, e1, e2, a, b, posIn_get hb⟩
theorem p_Conductor_goes_on : ∀ cs G R, sp_Conductor_goes_on cs G R → T_Conductor_goes_on (endR R) (cstart 5 cs) G := by
  intro cs G R h
  unfold sp_Conductor_goes_on at h
  split at h
  · rename_i p i x
    obtain ⟨C, m, r, rfl, rfl, ⟨ok, mp, hM, hp⟩, hm, pr, h⟩ := h
    obtain ⟨row, e1, e2, hs, _, e3⟩ := C.cell_ok ok hm pr
    have n8 := ok.m.n8
    have pm := ok.m.move_perm (C.cell m r).1
    unfold T_Conductor_goes_on
    simp [cstart]
    refine kAttr_fld hp (v := tbC C.t) rfl ?_
    refine cIx_at (c := tbRowC row) (by rw [List.getElem?_map, e1]; rfl) ?_
    refine kAttr_fld hp (v := nC C.bell) rfl ?_
    refine sp_place_in_i e3 pr.nd ?_
    rw [cSub_ii]
    refine cIx_pred (c := pairC (C.cell m r)) (by rw [List.getElem?_map, e2]; rfl) ?_
    simp
    refine kAttr_fld hp (v := .a (.ref mp)) rfl ?_
    refine hM.moves fun d k2 e r2 => ?_
    rw [cIx_dic e keyOf_s rfl, r2]
    obtain ⟨l, el⟩ := Option.isSome_iff_exists.mp hs
    rw [el]
    refine ⟨_, rfl, ?_⟩
    refine sp_times_i (by rw [pm.len]; omega) (pm.r100 pr) ⟨by rw [sizeLine_eq]; decide, ?_⟩
    exact .of h .rfl'
  · exact h.elim
theorem signs_txt (c : List Nat) : signs (txt c) = c.map fun l => .a (.str (ltS l)) := rfl
theorem p_check_calling : ∀ cs G R, sp_check_calling cs G R → T_check_calling (endR R) (cstart 4 cs) G := by
  intro cs G R h
  unfold sp_check_calling at h
  split at h
  · rename_i p z
    obtain ⟨M, c, rfl, hM, hl, hc, h⟩ := h
    unfold T_check_calling
    have loop : ∀ (c : List Nat) (i : Nat) (o2 o3 : Option CV) (t1 : CV) (D : CEnds), (∀ τ', D.nx τ' G) → (∀ l ∈ c, (M.lead l).isSome = true) → forL (cgTup 2 (cgCons (cgName 2) (cgCons (cgName 3) cgNil))) T_check_calling_L1 D (fun _ => True) (enumAt i (c.map fun l => .a (.str (ltS l)))) [some (.a (.ref p)), some t1, o2, o3] G := by
      intro c
      induction c with
      | nil => intro i o2 o3 t1 D hD _; exact ⟨trivial, hD _⟩
      | cons l c ih =>
        intro i o2 o3 t1 D hD hq
        rw [List.map_cons, enumAt_cons]
        refine forL_step trivial fun K hK => ?_
        simp [T_check_calling_L1]
        refine hM.moves fun d k2 e r2 => ?_
        obtain ⟨x, ex⟩ := Option.isSome_iff_exists.mp (hq l List.mem_cons_self)
        rw [InT_dic e keyOf_s rfl, r2, ex]
        simp [xr]
        rw [hK]
        exact dnS.here (ih _ _ _ _ _ hD fun x hx => hq x (List.mem_cons_of_mem _ hx))
    have e0 : (txt c).length = c.length := rfl
    have e1 : ¬ ((400 : Int) < (c.length : Int)) := by omega
    simp [cstart, isT, e0, e1]
    refine ⟨by rw [sizeLine_eq]; omega, ?_⟩
    rw [signs_txt, enumIt_at]
    exact loop c 0 none none _ _ (fun τ' => .of h .rfl') hc
  · exact h.elim
section
variable {α : Type} [DecidableEq α] {kf : α → NestedKey}
def metG (kf : α → NestedKey) (l : List α) (i : Nat) : List (NestedKey × CV) := (l.zipIdx i).map fun q => (kf q.1, nC q.2)
theorem metG_get (inj : ∀ a b, kf a = kf b → a = b) {r : α} : ∀ {l : List α} {i : Nat}, r ∈ l → dval (metG kf l i) (kf r) = some (nC (i + posIn r l))
  | x :: l, i, h => by
    unfold metG
    rw [List.zipIdx_cons, List.map_cons, dval_cons]
    by_cases e : x = r
    · subst e
      rw [if_pos rfl, posIn, if_pos rfl]
      rfl
    · rw [if_neg fun z => e (inj _ _ z)]
      have hm : r ∈ l := by
        rcases List.mem_cons.mp h with z | z
        · exact absurd z.symm e
        · exact z
      have := metG_get inj (l := l) (i := i + 1) hm
      unfold metG at this
      rw [this, posIn, if_neg e]
      congr 2
      omega
theorem metG_out (inj : ∀ a b, kf a = kf b → a = b) {r : α} {l : List α} {i : Nat} (h : r ∉ l) : ∀ q ∈ metG kf l i, q.1 ≠ kf r := by
  intro q hq e
  obtain ⟨⟨x, j⟩, hx, rfl⟩ := List.mem_map.mp hq
  have : x = r := inj _ _ e
  subst this
  exact h (List.fst_mem_of_mem_zipIdx hx)
theorem metG_app {l : List α} {r : α} : metG kf (l ++ [r]) 0 = metG kf l 0 ++ [(kf r, nC l.length)] := by
  unfold metG
  rw [List.zipIdx_append, List.map_append]
  simp
theorem metG_len {l : List α} {i : Nat} : (metG kf l i).length = l.length := by unfold metG; simp
end
def stK (s : Nat × List Nat) : NestedKey := .tup [.num (s.1 : Int), rowK s.2]
theorem stK_inj : ∀ a b, stK a = stK b → a = b := by
  rintro ⟨a, r⟩ ⟨b, s⟩ h
  unfold stK at h
  injection h with h
  injection h with h1 h2
  injection h1 with h1
  injection h2 with h2 _
  have e2 : r = s := rowK_inj h2
  have e1 : (a : Int) = (b : Int) := h1
  have e3 : a = b := by omega
  rw [e2, e3]
theorem nkV_stK (s : Nat × List Nat) : nkV (stK s) = .tup [nC s.1, rowC s.2] := by
  unfold stK nkV
  rw [nkVs_map]
  simp only [List.map_cons, List.map_nil, nkV_rowK]
  rfl
theorem keyOf_st (m : Nat) (r : List Nat) : keyOf (.tup [nC m, rowC r]) = some (stK (m, r)) := by rw [← nkV_stK (m, r)]; exact keyOf_nk _
theorem depth_row (r : List Nat) : (rowK r).depth = 1 := by
  have h2 : ∀ l : List Nat, NestedKey.depthAll (l.map fun n : Nat => NestedKey.num (n : Int)) = 0 := by
    intro l
    induction l with
    | nil => rfl
    | cons x l ih =>
      rw [List.map_cons]
      unfold NestedKey.depthAll
      rw [ih]
      rfl
  unfold rowK NestedKey.depth
  rw [h2]
theorem okK_st (s : Nat × List Nat) : okK true (stK s) = true := by
  unfold okK
  rw [show isTupK (stK s) = true from rfl]
  have : (stK s).depth = 2 := by
    unfold stK NestedKey.depth NestedKey.depthAll NestedKey.depthAll NestedKey.depthAll
    rw [depth_row]
    rfl
  rw [this]
  rfl
abbrev letC (l : Nat) : CV := .a (.str (ltS l))
theorem join_letters : ∀ c : List Nat, Txt.join (Str.ofString "") (c.map ltS) = txt c := by
  intro c
  have e : (Str.ofString "") = (⟨#[]⟩ : Str) := by decide +kernel
  rw [TL.join_eq, e]
  induction c with
  | nil => rfl
  | cons l c ih =>
    cases c with
    | nil => rfl
    | cons d c =>
      rw [List.map_cons, List.map_cons]
      rw [List.map_cons] at ih
      show (ltS l ++ (⟨#[]⟩ : Str) ++ Str.join ⟨#[]⟩ (ltS d :: c.map ltS) : Str) = _
      rw [ih]
      show (Str.append (Str.append (ltS l) ⟨#[]⟩) (txt (d :: c)) : Str) = _
      unfold Str.append
      simp
theorem kJoin_letters {G : CH} {R : CVK} {q : Addr} {c : List Nat} (h : G q = some (.lst (c.map letC))) (hl : c.length ≤ 100000) (hR : R (.a (.str (txt c))) G) : kJoin "str" (.a (.str (Str.ofString ""))) [.a (.ref q)] G R := by
  refine ⟨c.map ltS, by rw [List.map_map]; exact h, ?_, by rw [join_letters]; exact hR⟩
  have e : (Str.ofString "").length = 0 := by decide +kernel
  have e2 : ((c.map ltS).map (·.length)).sum = c.length := by
    rw [List.map_map]
    clear h hl hR
    induction c with
    | nil => rfl
    | cons x c ih => rw [List.map_cons, List.sum_cons, ih, List.length_cons]; show 1 + c.length = _; omega
  rw [e2, e]
  omega
theorem cSl_l {p : Addr} {xs : List CV} {lo hi : Option Int} {G : CH} {R : CVK} (h : G p = some (.lst xs)) : cSl (.a (.ref p)) lo hi G R = ∀ q, G q = none → R (.a (.ref q)) (cup G q (.lst (cut xs lo hi))) := by
  unfold cSl
  simp only [seq_of h]
theorem sp_goes_on_i {p : Addr} {C : Con} {m : Nat} {r : List Nat} {G : CH} {R : CVK} (hC : ConAt G p C) (hm : m < C.t.length) (pr : Perm C.M.n r) (h : R (.tup [.a (.str (ltS (C.step m r).1)), nC (C.step m r).2.1, rowC (C.step m r).2.2]) G) : sp_Conductor_goes_on [.a (.ref p), nC m, rowC r] G R := ⟨C, m, r, rfl, rfl, hC, hm, pr, h⟩
theorem Con.step_ok {C : Con} (ok : ConOk C) {m : Nat} {r : List Nat} (hm : m < C.t.length) (pr : Perm C.M.n r) : (C.step m r).2.1 < C.t.length ∧ Perm C.M.n (C.step m r).2.2 ∧ (C.M.lead (C.step m r).1).isSome = true := by
  obtain ⟨row, e1, e2, hs, hl, e3⟩ := C.cell_ok ok hm pr
  exact ⟨hl, times_perm pr (ok.m.move_perm _), hs⟩
theorem outcome_loop {C : Con} {first : List Nat} {p d q : Addr} {G0 B : CH} {R : CVK} {t1 : CV} {D : CEnds} (ok : ConOk C) (hrt : D.rt = dnV R) (hB : ConAt B p C) (hs : Sub G0 B) (n0d : G0 d = none) (n0q : G0 q = none) (ndq : d ≠ q) (hCB : ∀ G', (∀ a o, B a = some o → a ≠ d → a ≠ q → G' a = some o) → ConAt G' p C) :
    ∀ (f : Nat) (met : List (Nat × List Nat)) (cal : List Nat) (m : Nat) (r : List Nat) (o : Out) (o7 o8 : Option CV) (G : CH), f + cal.length ≤ 1000 → met.length = cal.length + 1 → m < C.t.length → Perm C.M.n r → C.go first f met cal m r = some o → R (outC o) G0 →
    (∀ a, a ≠ d → a ≠ q → G a = B a) → ConAt G p C → G d = some (.dic true (metG stK met 0)) → G q = some (.lst (cal.map letC)) →
    whL (cTruth (cC (.bl true))) T_Conductor_outcome_L1 D f [some (.a (.ref p)), some t1, some (rowC first), some (.a (.ref d)), some (.a (.ref q)), some (nC m), some (rowC r), o7, o8] G
  | 0, met, cal, m, r, o, o7, o8, G, _, _, _, _, hgo, _, _, _, _, _ => by cases hgo
  | f + 1, met, cal, m, r, o, o7, o8, G, hf, hl, hm, pr, hgo, hR, fr, hC, hd, hq => by
    refine whL_step fun K hK => ?_
    obtain ⟨s1, s2, s3⟩ := C.step_ok ok hm pr
    have sub : Sub G0 G := fun a o e => by
      have a1 : a ≠ d := fun z => by rw [z, n0d] at e; cases e
      have a2 : a ≠ q := fun z => by rw [z, n0q] at e; cases e
      rw [fr a a1 a2]
      exact hs a o e
    unfold Con.go at hgo
    generalize hst : C.step m r = s at hgo s1 s2 s3
    obtain ⟨l, m', r'⟩ := s
    simp only at hgo s1 s2 s3
    obtain ⟨ok', mp, hM, hp⟩ := id hC
    simp [T_Conductor_outcome_L1]
    refine kMeth_of hp (sd := (sp_Conductor_goes_on, [])) rfl ?_
    simp
    refine sp_goes_on_i hC hm pr ?_
    rw [hst]
    simp [bty_l hq]
    have hcl : (cal.map letC).length < sizeLine := by rw [List.length_map, sizeLine_eq]; omega
    rw [kAppend_l hq]
    refine ⟨hcl, ?_⟩
    have em : cal.map letC ++ [.a (.str (ltS l))] = (cal ++ [l]).map letC := by rw [List.map_append]; rfl
    rw [em]
    have sub1 : Sub G0 (cup G q (.lst ((cal ++ [l]).map letC))) := sub.put n0q
    have hd1 : (cup G q (.lst ((cal ++ [l]).map letC))) d = some (.dic true (metG stK met 0)) := by rw [cup_ne ndq]; exact hd
    refine ceq_row ?_
    by_cases e : r' = first
    · rw [if_pos e] at hgo
      cases hgo
      rw [decide_eq_true e]
      refine .inr ⟨rfl, ?_⟩
      refine kJoin_letters cup_same (by simp; omega) ?_
      refine ⟨by rw [sizeLine_eq]; decide, ?_⟩
      rw [hrt]
      exact .of hR sub1
    · rw [if_neg e] at hgo
      rw [decide_eq_false e]
      refine .inl ⟨rfl, by rw [sizeLine_eq]; decide, ?_⟩
      rw [InT_dic hd1 (keyOf_st m' r') (okK_st _)]
      by_cases em : (m', r') ∈ met
      · rw [if_pos em] at hgo
        cases hgo
        have hpos := posIn_lt em
        rw [metG_get stK_inj em]
        refine .inr ⟨rfl, ?_⟩
        refine ⟨by rw [sizeLine_eq]; decide, ?_⟩
        rw [cIx_dic hd1 (keyOf_st m' r') (okK_st _), metG_get stK_inj em]
        have hpl : posIn (m', r') met ≤ ((cal ++ [l]).map letC).length := by simp; omega
        refine ⟨_, rfl, _, rfl, ?_⟩
        rw [cSl_l cup_same]
        intro q1 hq1
        have nq1 : q ≠ q1 := fun z => by subst z; rw [cup_same] at hq1; cases hq1
        rw [Nat.zero_add, cut_to hpl, ← List.map_take]
        refine kJoin_letters cup_same (by simp; omega) ?_
        refine ⟨_, rfl, ?_⟩
        rw [cSl_l (by rw [cup_ne nq1]; exact cup_same)]
        intro q2 hq2
        rw [cut_from hpl, ← List.map_drop]
        refine kJoin_letters cup_same (by simp; omega) ?_
        refine ⟨by rw [sizeLine_eq]; decide, ?_⟩
        rw [hrt]
        have g1 : G0 q1 = none := by
          cases z : G0 q1 with
          | none => rfl
          | some u => rw [sub1 _ _ z] at hq1; cases hq1
        have sub2 := sub1.put (o := .lst (((cal ++ [l]).take (posIn (m', r') met)).map letC)) g1
        have g2 : G0 q2 = none := by
          cases z : G0 q2 with
          | none => rfl
          | some u => rw [sub2 _ _ z] at hq2; cases hq2
        exact .of hR (sub2.put g2)
      · rw [if_neg em] at hgo
        rw [dval_out (metG_out stK_inj em)]
        refine .inl ⟨rfl, ?_⟩
        rw [cLen_l cup_same]
        refine ⟨by rw [sizeLine_eq]; decide, ?_⟩
        rw [cSet_dic hd1 (keyOf_st m' r') (okK_st _), dput_out (metG_out stK_inj em)]
        refine ⟨by rw [metG_len, sizeLine_eq]; omega, ?_⟩
        rw [hK]
        have el : (.a (.int (((cal ++ [l]).map letC).length : Int)) : CV) = nC met.length := by rw [List.length_map, List.length_append, List.length_singleton, hl]
        rw [el, ← metG_app]
        refine dnS.here (outcome_loop ok hrt hB hs n0d n0q ndq hCB f (met ++ [(m', r')]) (cal ++ [l]) m' r' o _ _ _ (by simp; omega) (by simp; omega) s1 s2 hgo hR (fun a a1 a2 => by rw [cup_ne a1, cup_ne a2]; exact fr a a1 a2) ?_ (by rw [cup_same]) (by rw [cup_ne (Ne.symm ndq), cup_same]))
        -- the conductor and his method stand
        have stay : ∀ a o, B a = some o → a ≠ d → a ≠ q → (cup (cup G q (.lst ((cal ++ [l]).map letC))) d (.dic true (metG stK (met ++ [(m', r')]) 0))) a = some o := fun a o e a1 a2 => by rw [cup_ne a1, cup_ne a2, fr a a1 a2]; exact e
        exact hCB _ stay
theorem sp_told_row_i {x : CV} {r : List Nat} {n : Nat} {G : CH} {R : CVK} (hx : rowAt G x r) (hn : n ≤ 100) (pr : Perm n r) (h : R (rowC r) G) : sp_told_row [x, nC n] G R := ⟨r, n, hx, rfl, hn, pr, h⟩
theorem p_Conductor_outcome : ∀ cs G R, sp_Conductor_outcome cs G R → T_Conductor_outcome (endR R) (cstart 9 cs) G := by
  intro cs G R h
  unfold sp_Conductor_outcome at h
  split at h
  · rename_i p x
    obtain ⟨C, first, f, o, hC, hx, pf, hf, hgo, h⟩ := h
    obtain ⟨ok, mp, hM, hp⟩ := id hC
    have n8 := ok.m.n8
    have l1 := ok.t.l1
    have rest : (cSeq (cSetN 3 (cDic1 true (cTup (cCons (cC (.int 0)) (cCons (cVar 2) cNil))) (cC (.int 0))))
    (cSeq (cSetN 4 (cLst cNil))
    (cSeq (cSetN 5 (cC (.int 0)))
    (cSeq (cSetN 6 (cVar 2))
    (cWhile (cTruth (cC (.bl true))) T_Conductor_outcome_L1))))) (endR R) [some (.a (.ref p)), some x, some (rowC first), none, none, none, none, none, none] G := by
      simp
      intro d hd
      refine ⟨by rw [sizeLine_eq]; decide, ?_⟩
      refine ⟨stK (0, first), keyOf_st 0 first, okK_st _, ?_⟩
      intro q hq
      have ndq : d ≠ q := fun z => by subst z; rw [cup_same] at hq; cases hq
      have hGq : G q = none := by rw [cup_cup, cup_ne (Ne.symm ndq)] at hq; exact hq
      refine ⟨f, ?_⟩
      rw [cup_cup]
      refine outcome_loop (G0 := G) (B := G) (R := R) (t1 := x) (d := d) (q := q) ok rfl hC .rfl' hd hGq ndq (fun G' st => hC.mono fun a u e => st a u e (fun z => by rw [z, hd] at e; cases e) (fun z => by rw [z, hGq] at e; cases e)) f [(0, first)] [] 0 first o _ _ _ (by simpa using hf) rfl (by omega) pf hgo h (fun a a1 a2 => by rw [cup_ne a2, cup_ne a1]) ?_ ?_ ?_
      · exact hC.mono ((Sub.new hd).put hGq)
      · rw [cup_ne ndq, cup_same]; rfl
      · rw [cup_same]; rfl
    unfold T_Conductor_outcome
    rcases hx with ⟨rfl, rfl⟩ | hx
    · simp only [cSeq_e, cSetN_e, cIf_e, cTest_e, cOp_e, cVar_e, cC_e, cIs_n, cAttr_e, cstart] at rest ⊢
      refine ⟨.a .non, rfl, true, rfl, ?_⟩
      simp only [if_true]
      refine ⟨.a (.ref p), rfl, ?_⟩
      refine kAttr_fld hp (v := .a (.ref mp)) rfl ?_
      refine hM.opening ?_
      exact rest
    · have hnn : isNon x = false := by
        rcases hx with e | ⟨q, e, _⟩
        · subst e; rfl
        · subst e; rfl
      simp only [cSeq_e, cSetN_e, cIf_e, cTest_e, cOp_e, cVar_e, cC_e, cIs_n, cAttr_e, cCall_e, cCons_e, cNil_e, cstart] at rest ⊢
      refine ⟨x, rfl, false, by rw [hnn], ?_⟩
      simp only [Bool.false_eq_true, if_false]
      refine ⟨x, rfl, .a (.ref p), rfl, ?_⟩
      refine kAttr_fld hp (v := .a (.ref mp)) rfl ?_
      refine hM.stage ?_
      refine sp_told_row_i hx (by omega) pf ?_
      exact rest
  · exact h.elim
def headsFrom (M : Mth) : List Nat → List Nat → List (List Nat)
  | h, [] => [h]
  | h, l :: c => h :: headsFrom M (timesR h (M.move l)) c
def endFrom (M : Mth) : List Nat → List Nat → List Nat
  | h, [] => h
  | h, l :: c => endFrom M (timesR h (M.move l)) c
def rowsFrom (M : Mth) : List Nat → List Nat → List (List Nat)
  | _, [] => []
  | h, l :: c => (M.rows l).map (timesR h) ++ rowsFrom M (timesR h (M.move l)) c
structure Tch where
  M : Mth
  c : List Nat
  s : List Nat
structure TchOk (T : Tch) : Prop where
  m : MthOk T.M
  len : T.c.length ≤ 400
  lt : ∀ l ∈ T.c, (T.M.lead l).isSome = true
  ps : Perm T.M.n T.s
def Tch.fs (T : Tch) (mp : Addr) : List (Nat × CV) := [(a_method, .a (.ref mp)), (a_calling, .a (.str (txt T.c))), (a_start, rowC T.s), (a_row_of_heads, rowsC (headsFrom T.M T.s T.c)), (a_rows, rowsC (rowsFrom T.M T.s T.c))]
def TchAt (G : CH) (p : Addr) (T : Tch) : Prop := TchOk T ∧ ∃ mp, G p = some (.ins c_Touch (T.fs mp))
def sp_Touch___init__ : CSp := fun cs G R => match cs with
  | [.a (.ref p), .a (.ref mp), .a (.str z), x] => ∃ T : Tch, z = txt T.c ∧ MethAt G mp T.M ∧ TchOk T ∧ ((x = .a .non ∧ T.s = List.range' 1 T.M.n) ∨ rowAt G x T.s) ∧ G p = some (.ins c_Touch []) ∧ R (.a .non) (cup G p (.ins c_Touch (T.fs mp)))
  | _ => False
def sp_Touch_is_true : CSp := fun cs G R => match cs with
  | [.a (.ref p)] => ∃ T : Tch, TchAt G p T ∧ R (.a (.bl (decide (spotsGo [] (rowsFrom T.M T.s T.c) = none)))) G
  | _ => False
def sp_Touch_spots : CSp := fun cs G R => match cs with
  | [.a (.ref p)] => ∃ T : Tch, TchAt G p T ∧ R (spotsC (spotsGo [] (rowsFrom T.M T.s T.c))) G
  | _ => False
def sp_Touch_is_round : CSp := fun cs G R => match cs with
  | [.a (.ref p)] => ∃ T : Tch, TchAt G p T ∧ R (.a (.bl (decide (T.c ≠ []) && decide (endFrom T.M T.s T.c = T.s)))) G
  | _ => False
def sp_Touch_end : CSp := fun cs G R => match cs with
  | [.a (.ref p)] => ∃ T : Tch, TchAt G p T ∧ R (rowC (endFrom T.M T.s T.c)) G
  | _ => False
def T_Touch___init___L1 : CTS := (cSeq (cSetN 7 (cOp (cIx []) (cVar 4) (cUn cNeg (cC (.int 1)))))
    (cSeq (cDrop (cBM ["list"] kExtend (cVar 5) (cCons (cLc (ciVal (cOp (cIx []) (cAttr a_bodies [] (cVar 1)) (cVar 6))) (cgName 8) cYes (cCall sp_times [] (cCons (cVar 7) (cCons (cVar 8) cNil))) [8]) cNil)))
    (cDrop (cBM ["list"] kAppend (cVar 4) (cCons (cCall sp_times [] (cCons (cVar 7) (cCons (cOp (cIx []) (cAttr a_moves [] (cVar 1)) (cVar 6)) cNil))) cNil)))))
/-- Touch.__init__ -/
def T_Touch___init__ : CTS := (cSeq (cDrop (cCall sp_check_calling [] (cCons (cVar 1) (cCons (cVar 2) cNil))))
    (cSeq (cFld c_Touch a_method (cVar 0) (cVar 1))
    (cSeq (cFld c_Touch a_calling (cVar 0) (cVar 2))
    (cSeq (cFld c_Touch a_start (cVar 0) (cIf (cTest (cOp cIs (cVar 3) (cC .non))) (cAttr a_opening [] (cVar 1)) (cCall sp_told_row [] (cCons (cVar 3) (cCons (cAttr a_stage [] (cVar 1)) cNil)))))
    (cSeq (cSetN 4 (cLst (cCons (cAttr a_start [] (cVar 0)) cNil)))
    (cSeq (cSetN 5 (cLst cNil))
    (cSeq (cFor (ciVal (cVar 2)) (cgName 6) T_Touch___init___L1)
    (cSeq (cFld c_Touch a_row_of_heads (cVar 0) (cCB cTuple (cCons (cVar 4) cNil)))
    (cFld c_Touch a_rows (cVar 0) (cCB cTuple (cCons (cVar 5) cNil)))))))))))
/-- Touch.is_true -/
def T_Touch_is_true : CTS := (cRet (cOp cIs (cCall sp_spots_of [] (cCons (cAttr a_rows [] (cVar 0)) cNil)) (cC .non)))
/-- Touch.spots -/
def T_Touch_spots : CTS := (cRet (cCall sp_spots_of [] (cCons (cAttr a_rows [] (cVar 0)) cNil)))
/-- Touch.is_round -/
def T_Touch_is_round : CTS := (cRet (cAndV (cOp cGt (cCB (cLen []) (cCons (cAttr a_calling [] (cVar 0)) cNil)) (cC (.int 0))) (cOp cEq (cOp (cIx []) (cAttr a_row_of_heads [] (cVar 0)) (cUn cNeg (cC (.int 1)))) (cAttr a_start [] (cVar 0)))))
/-- Touch.end -/
def T_Touch_end : CTS := (cRet (cOp (cIx []) (cAttr a_row_of_heads [] (cVar 0)) (cUn cNeg (cC (.int 1)))))
theorem headsFrom_end (M : Mth) : ∀ (c h : List Nat), ∃ pre, headsFrom M h c = pre ++ [endFrom M h c]
  | [], h => ⟨[], rfl⟩
  | l :: c, h => by
    obtain ⟨pre, e⟩ := headsFrom_end M c (timesR h (M.move l))
    exact ⟨h :: pre, by rw [headsFrom, e]; rfl⟩
theorem leadRows_len (n : Nat) : ∀ (ls : List (List Nat)) (r : List Nat), (leadRows n r ls).1.length = ls.length
  | [], _ => rfl
  | l :: ls, r => by rw [leadRows, List.length_cons, leadRows_len n ls, List.length_cons]
theorem leadRows_perm {n : Nat} : ∀ (ls : List (List Nat)) (r : List Nat), Perm n r → (∀ l ∈ ls, Ch n 1 l) → ∀ x ∈ (leadRows n r ls).1, Perm n x
  | [], _, _, _, x, h => by cases h
  | l :: ls, r, pr, hl, x, h => by
    rw [leadRows] at h
    rcases List.mem_cons.mp h with e | h
    · rw [e]; exact pr
    · exact leadRows_perm ls _ (times_perm pr (mv_perm (hl l List.mem_cons_self))) (fun y hy => hl y (List.mem_cons_of_mem _ hy)) x h
theorem MthOk.rows_ok {M : Mth} (ok : MthOk M) {c : Nat} {l : List (List Nat)} (e : M.lead c = some l) : (M.rows c).length ≤ 32 ∧ ∀ x ∈ M.rows c, Perm M.n x := by
  obtain ⟨h1, h2⟩ := ok.lead_ok e
  have l32 := ok.l32
  unfold Mth.rows
  rw [e]
  exact ⟨by rw [leadRows_len]; show l.length ≤ 32; omega, leadRows_perm _ _ (rounds_perm _) h2⟩
theorem rowsFrom_len {M : Mth} (ok : MthOk M) : ∀ (c h : List Nat), (∀ l ∈ c, (M.lead l).isSome = true) → (rowsFrom M h c).length ≤ 32 * c.length
  | [], _, _ => by simp [rowsFrom]
  | l :: c, h, hc => by
    obtain ⟨x, e⟩ := Option.isSome_iff_exists.mp (hc l List.mem_cons_self)
    have := rowsFrom_len ok c (timesR h (M.move l)) fun y hy => hc y (List.mem_cons_of_mem _ hy)
    have h2 := (ok.rows_ok e).1
    rw [rowsFrom, List.length_append, List.length_map, List.length_cons]
    omega
theorem sp_spots_of_i {rs : List (List Nat)} {G : CH} {R : CVK} (hl : rs.length ≤ 100000) (h : R (spotsC (spotsGo [] rs)) G) : sp_spots_of [rowsC rs] G R := ⟨rs, rfl, hl, h⟩
theorem TchOk.rl {T : Tch} (ok : TchOk T) : (rowsFrom T.M T.s T.c).length ≤ 100000 := by
  have := rowsFrom_len ok.m T.c T.s ok.lt
  have := ok.len
  omega
theorem p_Touch_spots : ∀ cs G R, sp_Touch_spots cs G R → T_Touch_spots (endR R) (cstart 1 cs) G := by
  intro cs G R h
  unfold sp_Touch_spots at h
  split at h
  · obtain ⟨T, ⟨ok, mp, e⟩, h⟩ := h
    unfold T_Touch_spots
    simp [cstart]
    refine kAttr_fld e (v := rowsC (rowsFrom T.M T.s T.c)) rfl ?_
    exact sp_spots_of_i ok.rl (.of h .rfl')
  · exact h.elim
theorem isNon_spots (o : Option (Nat × Nat)) : isNon (spotsC o) = decide (o = none) := by cases o <;> rfl
theorem p_Touch_is_true : ∀ cs G R, sp_Touch_is_true cs G R → T_Touch_is_true (endR R) (cstart 1 cs) G := by
  intro cs G R h
  unfold sp_Touch_is_true at h
  split at h
  · obtain ⟨T, ⟨ok, mp, e⟩, h⟩ := h
    unfold T_Touch_is_true
    simp [cstart]
    refine kAttr_fld e (v := rowsC (rowsFrom T.M T.s T.c)) rfl ?_
    refine sp_spots_of_i ok.rl ?_
    rw [isNon_spots]
    exact .of h .rfl'
  · exact h.elim
theorem last_ix {T : Tch} {G : CH} {R : CVK} (h : R (rowC (endFrom T.M T.s T.c)) G) : cIx [] (rowsC (headsFrom T.M T.s T.c)) (.a (.int (-1))) G R := by
  obtain ⟨pre, e⟩ := headsFrom_end T.M T.c T.s
  rw [cIx_t, e, List.map_append, List.map_cons, List.map_nil, atI_last]
  exact h
theorem p_Touch_end : ∀ cs G R, sp_Touch_end cs G R → T_Touch_end (endR R) (cstart 1 cs) G := by
  intro cs G R h
  unfold sp_Touch_end at h
  split at h
  · obtain ⟨T, ⟨ok, mp, e⟩, h⟩ := h
    unfold T_Touch_end
    simp [cstart]
    refine kAttr_fld e (v := rowsC (headsFrom T.M T.s T.c)) rfl ?_
    exact last_ix (.of h .rfl')
  · exact h.elim
theorem p_Touch_is_round : ∀ cs G R, sp_Touch_is_round cs G R → T_Touch_is_round (endR R) (cstart 1 cs) G := by
  intro cs G R h
  unfold sp_Touch_is_round at h
  split at h
  · obtain ⟨T, ⟨ok, mp, e⟩, h⟩ := h
    unfold T_Touch_is_round
    have e0 : (txt T.c).length = T.c.length := rfl
    have hl := ok.len
    simp [cstart]
    refine kAttr_fld e (v := .a (.str (txt T.c))) rfl ?_
    rw [cLen_s, e0]
    refine ⟨by rw [sizeLine_eq]; omega, ?_⟩
    rw [cGt_ii]
    by_cases hc : T.c = []
    · have : ¬ (0 : Int) < (T.c.length : Int) := by rw [hc]; simp
      rw [decide_eq_false this]
      refine .inl ⟨rfl, ?_⟩
      simp [hc] at h
      exact .of h .rfl'
    · have : (0 : Int) < (T.c.length : Int) := by have := List.length_pos_iff.mpr hc; omega
      rw [decide_eq_true this]
      refine .inr ⟨rfl, ?_⟩
      refine kAttr_fld e (v := rowsC (headsFrom T.M T.s T.c)) rfl ?_
      refine last_ix ?_
      refine kAttr_fld e (v := rowC T.s) rfl ?_
      refine ceq_row ?_
      simp [hc] at h
      exact .of h .rfl'
  · exact h.elim
theorem kExtend_l {k : String} {p q : Addr} {xs ys : List CV} {G : CH} {R : CVK} (h : G p = some (.lst xs)) (hq : G q = some (.lst ys)) : kExtend k (.a (.ref p)) [.a (.ref q)] G R = (xs.length + ys.length ≤ sizeLine ∧ R (.a .non) (cup G p (.lst (xs ++ ys)))) := by
  unfold kExtend
  simp only [h, hq]
/-- the heap of a touch in the making: heads at q1, rows at q2 -/
def tH (B : CH) (q1 q2 : Addr) (hs rs : List (List Nat)) : CH := cup (cup B q1 (.lst (hs.map rowC))) q2 (.lst (rs.map rowC))
theorem tch_loop {D : CEnds} {M : Mth} (ok : MthOk M) {B : CH} {mp q1 q2 : Addr} {t0 t2 t3 : CV} (hM : MethAt B mp M) (n1 : B q1 = none) (n2 : B q2 = none) (n12 : q1 ≠ q2) :
    ∀ (c : List Nat) (hd : List Nat) (pre rs : List (List Nat)) (o6 o7 o8 : Option CV), Perm M.n hd → (∀ l ∈ c, (M.lead l).isSome = true) → pre.length + c.length ≤ 1000 → rs.length + 32 * c.length ≤ 100000 →
    (∀ o6 o7 o8, D.nx [some t0, some (.a (.ref mp)), some t2, some t3, some (.a (.ref q1)), some (.a (.ref q2)), o6, o7, o8] (tH B q1 q2 (pre ++ headsFrom M hd c) (rs ++ rowsFrom M hd c))) →
    forL (cgName 6) T_Touch___init___L1 D (fun _ => True) (c.map letC) [some t0, some (.a (.ref mp)), some t2, some t3, some (.a (.ref q1)), some (.a (.ref q2)), o6, o7, o8] (tH B q1 q2 (pre ++ [hd]) rs)
  | [], hd, pre, rs, o6, o7, o8, ph, hc, l1, l2, hD => ⟨trivial, by have := hD o6 o7 o8; simpa [headsFrom, rowsFrom] using this⟩
  | l :: c, hd, pre, rs, o6, o7, o8, ph, hc, l1, l2, hD => by
    rw [List.map_cons]
    refine forL_step trivial fun K hK => ?_
    obtain ⟨x, ex⟩ := Option.isSome_iff_exists.mp (hc l List.mem_cons_self)
    obtain ⟨r32, rp⟩ := ok.rows_ok ex
    have n8 := ok.n8
    have pm := ok.move_perm l
    generalize hG : tH B q1 q2 (pre ++ [hd]) rs = G
    have g1 : G q1 = some (.lst ((pre ++ [hd]).map rowC)) := by rw [← hG]; unfold tH; rw [cup_ne n12, cup_same]
    have g2 : G q2 = some (.lst (rs.map rowC)) := by rw [← hG]; unfold tH; rw [cup_same]
    have sB : Sub B G := by rw [← hG]; unfold tH; exact (Sub.new n1).put n2
    have hMG := hM.mono sB
    simp [T_Touch___init___L1]
    rw [cIx_l g1]
    have ea : L2.atI ((pre ++ [hd]).map rowC) (-1) = some (rowC hd) := by rw [List.map_append, List.map_cons, List.map_nil]; exact atI_last _ _
    rw [ea]
    dsimp only
    rw [bty_l g2]
    refine ⟨rfl, ?_⟩
    refine hMG.bodies fun d k3 e r3 => ?_
    rw [cIx_dic e keyOf_s rfl, r3, ex]
    refine ⟨_, rfl, _, rfl, ?_⟩
    intro Dn hDn
    refine lcL_pair (P := fun a b => ∃ r, Perm M.n r ∧ a = rowC r ∧ b = rowC (timesR hd r)) (fun _ => trivial) (fun a b acc K2 hp hK2 => ?_) (xs := (M.rows l).map rowC) (ys := ((M.rows l).map (timesR hd)).map rowC) ?_ [] (by rw [sizeLine_eq]; simp; omega) ?_
    · obtain ⟨r, pr, rfl, rfl⟩ := hp
      simp [cwipe]
      exact sp_times_i (by rw [pr.len]; omega) (pr.r100 ph) hK2
    · have : ∀ L : List (List Nat), (∀ x ∈ L, Perm M.n x) → Paired (fun a b => ∃ r, Perm M.n r ∧ a = rowC r ∧ b = rowC (timesR hd r)) (L.map rowC) ((L.map (timesR hd)).map rowC) := by
        intro L
        induction L with
        | nil => intro _; exact .nil
        | cons y L ih => intro h; exact .cons ⟨y, h y List.mem_cons_self, rfl, rfl⟩ (ih fun z hz => h z (List.mem_cons_of_mem _ hz))
      exact this _ rp
    · have nd1 : q1 ≠ Dn := fun z => by rw [← z, g1] at hDn; cases hDn
      have nd2 : q2 ≠ Dn := fun z => by rw [← z, g2] at hDn; cases hDn
      rw [List.nil_append, kExtend_l (by rw [cup_ne nd2]; exact g2) cup_same]
      refine ⟨by rw [sizeLine_eq]; simp at l2 ⊢; omega, ?_⟩
      have bD : B Dn = none := by
        cases z : B Dn with
        | none => rfl
        | some u => rw [sB _ _ z] at hDn; cases hDn
      have s2 := (sB.put (o := .lst ((((M.rows l).map (timesR hd)).map rowC))) bD).put (o := .lst (rs.map rowC ++ (((M.rows l).map (timesR hd)).map rowC))) n2
      refine ⟨bty_l (by rw [cup_ne n12, cup_ne nd1]; exact g1), ?_⟩
      refine (hM.mono s2).moves fun d2 k2 e2 r2 => ?_
      rw [cIx_dic e2 keyOf_s rfl, r2, ex]
      refine ⟨_, rfl, ?_⟩
      refine sp_times_i (by rw [pm.len]; omega) (pm.r100 ph) ?_
      rw [kAppend_l (by rw [cup_ne n12, cup_ne nd1]; exact g1)]
      refine ⟨by rw [sizeLine_eq]; simp at l1 ⊢; omega, ?_⟩
      rw [hK]
      refine ⟨_, tH B q1 q2 ((pre ++ [hd]) ++ [timesR hd (M.move l)]) (rs ++ (M.rows l).map (timesR hd)), .rfl', fun a o h => ?_, tch_loop ok hM n1 n2 n12 c (timesR hd (M.move l)) (pre ++ [hd]) (rs ++ (M.rows l).map (timesR hd)) _ _ _ (times_perm ph pm) (fun y hy => hc y (List.mem_cons_of_mem _ hy)) (by simp at l1 ⊢; omega) (by simp at l2 ⊢; omega) (fun a b c' => by
        have := hD a b c'
        simpa [headsFrom, rowsFrom] using this)⟩
      unfold tH at h
      by_cases a2 : a = q2
      · subst a2
        rw [cup_same] at h
        rw [cup_ne (Ne.symm n12), cup_same, ← h, List.map_append]
      · rw [cup_ne a2] at h
        by_cases a1 : a = q1
        · subst a1
          rw [cup_same] at h
          rw [cup_same, ← h]
          simp
        · rw [cup_ne a1] at h
          have aD : a ≠ Dn := fun z => by rw [z, bD] at h; cases h
          rw [cup_ne a1, cup_ne a2, cup_ne aD]
          exact sB _ _ h
theorem tput0 {v : CV} : putC a_method v [] = [(a_method, v)] := rfl
theorem tput1 {v w : CV} : putC a_calling w [(a_method, v)] = [(a_method, v), (a_calling, w)] := rfl
theorem tput2 {v w u : CV} : putC a_start u [(a_method, v), (a_calling, w)] = [(a_method, v), (a_calling, w), (a_start, u)] := rfl
theorem tput3 {v w u x : CV} : putC a_row_of_heads x [(a_method, v), (a_calling, w), (a_start, u)] = [(a_method, v), (a_calling, w), (a_start, u), (a_row_of_heads, x)] := rfl
theorem tput4 {v w u x y : CV} : putC a_rows y [(a_method, v), (a_calling, w), (a_start, u), (a_row_of_heads, x)] = [(a_method, v), (a_calling, w), (a_start, u), (a_row_of_heads, x), (a_rows, y)] := rfl
theorem sp_check_calling_i {p : Addr} {M : Mth} {c : List Nat} {G : CH} {R : CVK} (hM : MethAt G p M) (hl : c.length ≤ 400) (hc : ∀ l ∈ c, (M.lead l).isSome = true) (h : R (.a .non) G) : sp_check_calling [.a (.ref p), .a (.str (txt c))] G R := ⟨M, c, rfl, hM, hl, hc, h⟩
theorem rowAt.put {G : CH} {p : Addr} {c : Nat} {fs : List (Nat × CV)} {o : CO} {x : CV} {r : List Nat} (hp : G p = some (.ins c fs)) (h : rowAt G x r) : rowAt (cup G p o) x r := by
  rcases h with h | ⟨q, e, h⟩
  · exact .inl h
  · have : q ≠ p := fun z => by subst z; rw [hp] at h; cases h
    exact .inr ⟨q, e, by rw [cup_ne this]; exact h⟩
theorem tch_rest {T : Tch} {G : CH} {p mp : Addr} {x : CV} {R : CVK} (ok : TchOk T) (hp : G p = some (.ins c_Touch [])) (hM : MethAt G mp T.M) (h : R (.a .non) (cup G p (.ins c_Touch (T.fs mp)))) :
    ∃ x_1, (cup G p (CO.ins c_Touch [(a_method, .a (.ref mp)), (a_calling, .a (.str (txt T.c)))])) p = some (CO.ins c_Touch x_1) ∧ x_1.length < 1000 ∧
      kAttr a_start [] (.a (.ref p)) (cup (cup G p (CO.ins c_Touch [(a_method, .a (.ref mp)), (a_calling, .a (.str (txt T.c)))])) p (CO.ins c_Touch (putC a_start (rowC T.s) x_1))) fun c G1 =>
        1 ≤ sizeLine ∧ ∀ (q1 : Addr), G1 q1 = none → ∀ (q2 : Addr), cup G1 q1 (CO.lst [c]) q2 = none →
          forL (cgName 6) T_Touch___init___L1
            { nx := cSeq (cFld c_Touch a_row_of_heads (cVar 0) (cCB cTuple (cCons (cVar 4) cNil))) (cFld c_Touch a_rows (cVar 0) (cCB cTuple (cCons (cVar 5) cNil))) (endR R), rt := dnV R }
            (sVal (signs (txt T.c))).st (signs (txt T.c))
            [some (.a (.ref p)), some (.a (.ref mp)), some (.a (.str (txt T.c))), some x, some (.a (.ref q1)), some (.a (.ref q2)), none, none, none]
            (cup (cup G1 q1 (CO.lst [c])) q2 (CO.lst [])) := by
  have hl := ok.len
  refine ⟨_, cup_same, by simp, ?_⟩
  rw [tput2, cup_cup]
  refine kAttr_fld cup_same (v := rowC T.s) rfl ⟨by rw [sizeLine_eq]; decide, fun q1 h1 q2 h2 => ?_⟩
  generalize hB : cup G p (CO.ins c_Touch [(a_method, .a (.ref mp)), (a_calling, .a (.str (txt T.c))), (a_start, rowC T.s)]) = B at h1 h2 ⊢
  have n12 : q1 ≠ q2 := fun z => by subst z; rw [cup_same] at h2; cases h2
  have hB2 : B q2 = none := by rw [cup_ne (Ne.symm n12)] at h2; exact h2
  have hBp : B p = some (CO.ins c_Touch [(a_method, .a (.ref mp)), (a_calling, .a (.str (txt T.c))), (a_start, rowC T.s)]) := by rw [← hB, cup_same]
  have np1 : p ≠ q1 := fun z => by rw [z] at hBp; rw [h1] at hBp; cases hBp
  have np2 : p ≠ q2 := fun z => by rw [z] at hBp; rw [hB2] at hBp; cases hBp
  have hMB : MethAt B mp T.M := by rw [← hB]; exact hM.put hp (by decide)
  refine tch_loop (B := B) (mp := mp) (q1 := q1) (q2 := q2) ok.m hMB h1 hB2 n12 T.c T.s [] [] _ _ _ ok.ps ok.lt (by simp; omega) (by simp; omega) (fun o6 o7 o8 => ?_)
  have g1 : tH B q1 q2 ([] ++ headsFrom T.M T.s T.c) ([] ++ rowsFrom T.M T.s T.c) q1 = some (.lst ((headsFrom T.M T.s T.c).map rowC)) := by unfold tH; rw [cup_ne n12, cup_same]; rfl
  have g2 : tH B q1 q2 ([] ++ headsFrom T.M T.s T.c) ([] ++ rowsFrom T.M T.s T.c) q2 = some (.lst ((rowsFrom T.M T.s T.c).map rowC)) := by unfold tH; rw [cup_same]; rfl
  have gp : tH B q1 q2 ([] ++ headsFrom T.M T.s T.c) ([] ++ rowsFrom T.M T.s T.c) p = some (CO.ins c_Touch [(a_method, .a (.ref mp)), (a_calling, .a (.str (txt T.c))), (a_start, rowC T.s)]) := by unfold tH; rw [cup_ne np2, cup_ne np1, hBp]
  generalize hF : tH B q1 q2 ([] ++ headsFrom T.M T.s T.c) ([] ++ rowsFrom T.M T.s T.c) = F at g1 g2 gp ⊢
  simp only [cSeq_e, cFld_e, cCB_e, cCons_e, cVar_e, cNil_e]
  refine ⟨_, rfl, ?_⟩
  rw [cTuple_l g1]
  refine ⟨_, rfl, p, _, rfl, gp, by simp, ?_⟩
  refine ⟨_, rfl, ?_⟩
  rw [cTuple_l (by rw [cup_ne (Ne.symm np2)]; exact g2)]
  refine ⟨_, rfl, p, _, rfl, cup_same, by rw [tput3]; simp, ?_⟩
  rw [tput3, tput4, cup_cup]
  refine .of h fun a o e => ?_
  by_cases ap : a = p
  · subst ap
    rw [cup_same] at e ⊢
    exact e
  · rw [cup_ne ap] at e
    rw [cup_ne ap, ← hF]
    unfold tH
    have hb : B a = some o := by rw [← hB, cup_ne ap]; exact e
    have a1 : a ≠ q1 := fun z => by rw [z, h1] at hb; cases hb
    have a2 : a ≠ q2 := fun z => by rw [z, hB2] at hb; cases hb
    rw [cup_ne a2, cup_ne a1, hb]
theorem p_Touch___init__ : ∀ cs G R, sp_Touch___init__ cs G R → T_Touch___init__ (endR R) (cstart 9 cs) G := by
  intro cs G R h
  unfold sp_Touch___init__ at h
  split at h
  · rename_i p mp z x
    obtain ⟨T, rfl, hM, ok, hx, hp, h⟩ := h
    have n8 := ok.m.n8
    have hl := ok.len
    unfold T_Touch___init__
    simp only [cSeq_e, cDrop_e, cCall_e, cCons_e, cVar_e, cNil_e, cstart]
    refine ⟨.a (.ref mp), rfl, .a (.str (txt T.c)), rfl, ?_⟩
    refine sp_check_calling_i hM ok.len ok.lt ?_
    simp [hp, tput0, tput1, cup_cup]
    have hp2 : (cup G p (CO.ins c_Touch [(a_method, .a (.ref mp)), (a_calling, .a (.str (txt T.c)))])) p = some (CO.ins c_Touch [(a_method, .a (.ref mp)), (a_calling, .a (.str (txt T.c)))]) := cup_same
    have hM2 : MethAt (cup G p (CO.ins c_Touch [(a_method, .a (.ref mp)), (a_calling, .a (.str (txt T.c)))])) mp T.M := hM.put hp (by decide)
    rcases hx with ⟨rfl, es⟩ | hx
    · refine .inr ⟨rfl, hM2.opening ?_⟩
      rw [← es]
      exact tch_rest ok hp hM h
    · have hnn : isNon x = false := by
        rcases hx with e | ⟨q, e, _⟩
        · subst e; rfl
        · subst e; rfl
      refine .inl ⟨hnn, hM2.stage ?_⟩
      refine sp_told_row_i (rowAt.put hp hx) (by omega) ok.ps ?_
      exact tch_rest ok hp hM h
  · exact h.elim
structure Ent where
  st : Nat
  pos : Nat
  l : Nat
  af : Nat
  deriving DecidableEq
abbrev wantC (b pos : Nat) : CV := .tup [.tup [nC b, .tup [nC pos]]]
abbrev entC (b : Nat) (e : Ent) : CV := .tup [nC e.st, wantC b e.pos, letC e.l, nC e.af]
abbrev entsC (b : Nat) (es : List Ent) : CV := .tup (es.map (entC b))
structure EntOk (M : Mth) (b : Nat) (e : Ent) : Prop where
  b1 : 1 ≤ b
  b2 : b ≤ M.n
  p1 : 1 ≤ e.pos
  p2 : e.pos ≤ M.n
  s : e.st ≤ 29
  a : e.af ≤ 29
  l : (M.lead e.l).isSome = true
def EntsOk (M : Mth) (b : Nat) (es : List Ent) : Prop := es.length ≤ 60 ∧ ∀ e ∈ es, EntOk M b e
def sp_are_wants : CSp := fun cs G R => match cs with
  | [x, .a (.int i)] => ∃ b pos n : Nat, x = wantC b pos ∧ i = n ∧ 1 ≤ b ∧ b ≤ n ∧ 1 ≤ pos ∧ pos ≤ n ∧ R (.a (.bl true)) G
  | _ => False
def sp_is_entry : CSp := fun cs G R => match cs with
  | [x, .a (.ref p)] => ∃ (b : Nat) (e : Ent) (M : Mth), x = entC b e ∧ MethAt G p M ∧ EntOk M b e ∧ R (.a (.bl true)) G
  | _ => False
def sp_check_entries : CSp := fun cs G R => match cs with
  | [.a (.ref p), x] => ∃ (b : Nat) (es : List Ent) (M : Mth), x = entsC b es ∧ MethAt G p M ∧ EntsOk M b es ∧ R (.a .non) G
  | _ => False
/-- the entries of a state, by the state -/
def ByAt (G : CH) (b : Nat) (es : List Ent) (k : List (NestedKey × CV)) (ss : List Nat) : Prop := ∀ s ∈ ss, ∃ q, dval k (.num (s : Int)) = some (.a (.ref q)) ∧ G q = some (.lst ((es.filter fun e => e.st == s).map (entC b)))
def BookAt (G : CH) (p : Addr) (M : Mth) (b : Nat) (es : List Ent) : Prop := EntsOk M b es ∧ ∃ mp d k, MethAt G mp M ∧ G p = some (.ins c_Book [(a_method, .a (.ref mp)), (a_entries, entsC b es), (a_by_state, .a (.ref d))]) ∧ G d = some (.dic false k) ∧ ByAt G b es k (es.map (·.st))
theorem BookAt.mono {G G' : CH} {p : Addr} {M : Mth} {b : Nat} {es : List Ent} (h : BookAt G p M b es) (s : Sub G G') : BookAt G' p M b es := by
  obtain ⟨h0, mp, d, k, h1, h2, h3, h4⟩ := h
  exact ⟨h0, mp, d, k, h1.mono s, s _ _ h2, s _ _ h3, fun x hx => by obtain ⟨q, a, c⟩ := h4 x hx; exact ⟨q, a, s _ _ c⟩⟩
def sp_Book___init__ : CSp := fun cs G R => match cs with
  | [.a (.ref p), .a (.ref mp), x] => ∃ (b : Nat) (es : List Ent) (M : Mth), x = entsC b es ∧ MethAt G mp M ∧ EntsOk M b es ∧ G p = some (.ins c_Book []) ∧
    ∀ G', (∀ a o, G a = some o → a ≠ p → G' a = some o) → BookAt G' p M b es → R (.a .non) G'
  | _ => False
/-- the entries of a conductor's table -/
def entsRow (st : Nat) : Nat → List (Nat × Nat) → List Ent
  | _, [] => []
  | i, q :: r => ⟨st, i + 1, q.1, q.2⟩ :: entsRow st (i + 1) r
def entsTb : Nat → Tb → List Ent
  | _, [] => []
  | m, r :: t => entsRow m 0 r ++ entsTb (m + 1) t
def sp_Conductor_as_book : CSp := fun cs G R => match cs with
  | [.a (.ref p)] => ∃ C : Con, ConAt G p C ∧ ∀ q G', Sub G G' → BookAt G' q C.M C.bell (entsTb 0 C.t) → R (.a (.ref q)) G'
  | _ => False
def sp_applies : CSp := fun cs G R => match cs with
  | [x, y] => ∃ (b : Nat) (e : Ent) (r : List Nat), x = entC b e ∧ y = rowC r ∧ b ∈ r ∧ r.Nodup ∧ R (.a (.bl (decide (posIn b r + 1 = e.pos)))) G
  | _ => False
/-- the entry that applies -/
def OneWay (b : Nat) (es : List Ent) (m : Nat) (r : List Nat) (e : Ent) : Prop := (es.filter fun e => e.st == m).filter (fun e => decide (posIn b r + 1 = e.pos)) = [e]
def goalC (M : Mth) (r : List Nat) (e : Ent) : CV := if timesR r (M.move e.l) = List.range' 1 M.n then .a (.int (-1)) else nC e.af
def sp_Book_ways_from : CSp := fun cs G R => match cs with
  | [.a (.ref p), x] => ∃ (M : Mth) (b : Nat) (es : List Ent) (m : Nat) (r : List Nat) (e : Ent), x = .tup [nC m, rowC r] ∧ BookAt G p M b es ∧ Perm M.n r ∧ OneWay b es m r e ∧
    R (.tup [.tup [letC e.l, .tup [goalC M r e, rowC (timesR r (M.move e.l))]]]) G
  | _ => False
def sp_Book_fan : CSp := fun cs G R => match cs with
  | [.a (.ref p), x, y] => ∃ (M : Mth) (b : Nat) (es : List Ent) (m : Nat) (r : List Nat) (e : Ent), x = rowC r ∧ y = .tup [nC m] ∧ BookAt G p M b es ∧ Perm M.n r ∧ OneWay b es m r e ∧
    ∀ d, G d = none → R (.a (.ref d)) (cup G d (.dic false [(.text (ltS e.l), .tup [rowC (timesR r (M.move e.l)), .tup [goalC M r e]])]))
  | _ => False
def BearsOk (M : Mth) (b : Nat) (es : List Ent) : Nat → List Nat → List Nat → Prop
  | _, _, [] => True
  | m, r, l :: c => ∃ e, OneWay b es m r e ∧ e.l = l ∧ (c = [] ∨ (timesR r (M.move l) ≠ List.range' 1 M.n ∧ BearsOk M b es e.af (timesR r (M.move l)) c))
def sp_Book_bears : CSp := fun cs G R => match cs with
  | [.a (.ref p), .a (.str z)] => ∃ (M : Mth) (b : Nat) (es : List Ent) (c : List Nat), z = txt c ∧ BookAt G p M b es ∧ c.length ≤ 400 ∧ (∀ l ∈ c, (M.lead l).isSome = true) ∧ BearsOk M b es 0 (List.range' 1 M.n) c ∧ R (.a (.bl true)) G
  | _ => False
def T_are_wants_L1 : CTS := (cSeq (cIfS (cOr (cNot (cTruth (cIsi ["tuple"] (cVar 3)))) (cTest (cOp cNe (cCB (cLen []) (cCons (cVar 3) cNil)) (cC (.int 2))))) (cRet (cC (.bl false))) cNext)
    (cSeq (cIfS (cOr (cNot (cTruth (cCall sp_is_integer [] (cCons (cOp (cIx []) (cVar 3) (cC (.int 0))) (cCons (cOp cAdd (cVar 2) (cC (.int 1))) (cCons (cVar 1) cNil)))))) (cNot (cTruth (cCall sp_is_places [] (cCons (cOp (cIx []) (cVar 3) (cC (.int 1))) (cCons (cVar 1) cNil)))))) (cRet (cC (.bl false))) cNext)
    (cSetN 2 (cOp (cIx []) (cVar 3) (cC (.int 0))))))
/-- are_wants -/
def T_are_wants : CTS := (cSeq (cIfS (cNot (cTruth (cIsi ["tuple"] (cVar 0)))) (cRet (cC (.bl false))) cNext)
    (cSeq (cSetN 2 (cC (.int 0)))
    (cSeq (cFor (ciVal (cVar 0)) (cgName 3) T_are_wants_L1)
    (cRet (cC (.bl true))))))
/-- is_entry -/
def T_is_entry : CTS := (cSeq (cIfS (cOr (cNot (cTruth (cIsi ["tuple"] (cVar 0)))) (cTest (cOp cNe (cCB (cLen []) (cCons (cVar 0) cNil)) (cC (.int 4))))) (cRet (cC (.bl false))) cNext)
    (cSeq (cIfS (cOr (cNot (cTruth (cCall sp_is_integer [] (cCons (cOp (cIx []) (cVar 0) (cC (.int 0))) (cCons (cC (.int 0)) (cCons (cC (.int 29)) cNil)))))) (cNot (cTruth (cCall sp_is_integer [] (cCons (cOp (cIx []) (cVar 0) (cC (.int 3))) (cCons (cC (.int 0)) (cCons (cC (.int 29)) cNil))))))) (cRet (cC (.bl false))) cNext)
    (cSeq (cIfS (cOr (cNot (cTruth (cIsi ["str"] (cOp (cIx []) (cVar 0) (cC (.int 2)))))) (cTest (cOp (InT [] true) (cOp (cIx []) (cVar 0) (cC (.int 2))) (cAttr a_moves [] (cVar 1))))) (cRet (cC (.bl false))) cNext)
    (cRet (cCall sp_are_wants [] (cCons (cOp (cIx []) (cVar 0) (cC (.int 1))) (cCons (cAttr a_stage [] (cVar 1)) cNil)))))))
def T_check_entries_L1 : CTS := (cIfS (cNot (cTruth (cCall sp_is_entry [] (cCons (cVar 3) (cCons (cVar 0) cNil))))) cNever cNext)
/-- check_entries -/
def T_check_entries : CTS := (cSeq (cIfS (cNot (cTruth (cIsi ["tuple"] (cVar 1)))) cNever cNext)
    (cSeq (cFor (ciEnum (cVar 1)) (cgTup 2 (cgCons (cgName 2) (cgCons (cgName 3) cgNil))) T_check_entries_L1)
    (cIfS (cTest (cOp cGt (cCB (cLen []) (cCons (cVar 1) cNil)) (cC (.int 60)))) cNever cNext)))
/-- Book.__init__ -/
def T_Book___init__ : CTS := (cSeq (cSetN 3 (cCall sp_deep [.a (.int 0)] (cCons (cVar 2) cNil)))
    (cSeq (cDrop (cCall sp_check_entries [] (cCons (cVar 1) (cCons (cVar 3) cNil))))
    (cSeq (cFld c_Book a_method (cVar 0) (cVar 1))
    (cSeq (cFld c_Book a_entries (cVar 0) (cVar 3))
    (cFld c_Book a_by_state (cVar 0) (cDc (ciVal (cVar 3)) (cgName 4) cYes (cOp (cIx []) (cVar 4) (cC (.int 0))) (cLc (ciVal (cVar 3)) (cgName 5) (cTest (cOp cEq (cOp (cIx []) (cVar 5) (cC (.int 0))) (cOp (cIx []) (cVar 4) (cC (.int 0))))) (cVar 5) [5]) [4]))))))
def T_Conductor_as_book_L1 : CTS := (cDrop (cBM ["list"] kAppend (cVar 1) (cCons (cTup (cCons (cVar 2) (cCons (cTup (cCons (cTup (cCons (cAttr a_bell [] (cVar 0)) (cCons (cTup (cCons (cOp cAdd (cVar 4) (cC (.int 1))) cNil)) cNil))) cNil)) (cCons (cVar 5) (cCons (cVar 6) cNil))))) cNil)))
def T_Conductor_as_book_L2 : CTS := (cFor (ciEnum (cVar 3)) (cgTup 2 (cgCons (cgName 4) (cgCons (cgTup 2 (cgCons (cgName 5) (cgCons (cgName 6) cgNil))) cgNil))) T_Conductor_as_book_L1)
/-- Conductor.as_book -/
def T_Conductor_as_book : CTS := (cSeq (cSetN 1 (cLst cNil))
    (cSeq (cFor (ciEnum (cAttr a_table [] (cVar 0))) (cgTup 2 (cgCons (cgName 2) (cgCons (cgName 3) cgNil))) T_Conductor_as_book_L2)
    (cRet (cMake c_Book sp_Book___init__ [] (cCons (cAttr a_method [] (cVar 0)) (cCons (cCB cTuple (cCons (cVar 1) cNil)) cNil))))))
def T_applies_L1 : CTS := (cIfS (cTest (cOp (InT [] true) (cOp cAdd (cBM ["tuple", "list"] kIndex (cVar 1) (cCons (cVar 2) cNil)) (cC (.int 1))) (cVar 3))) (cRet (cC (.bl false))) cNext)
/-- applies -/
def T_applies : CTS := (cSeq (cFor (ciVal (cOp (cIx []) (cVar 0) (cC (.int 1)))) (cgTup 2 (cgCons (cgName 2) (cgCons (cgName 3) cgNil))) T_applies_L1)
    (cRet (cC (.bl true))))
def T_Book_ways_from_L1 : CTS := (cIfS (cTruth (cCall sp_applies [] (cCons (cVar 3) (cCons (cVar 5) cNil)))) (cSeq (cSetN 6 (cCall sp_times [] (cCons (cVar 5) (cCons (cOp (cIx []) (cAttr a_moves [] (cAttr a_method [] (cVar 0))) (cOp (cIx []) (cVar 3) (cC (.int 2)))) cNil))))
    (cIfS (cTest (cOp cEq (cVar 6) (cAttr a_opening [] (cAttr a_method [] (cVar 0))))) (cAsg (cC (.bl true)) (cgSub (cVar 2) (cTup (cCons (cOp (cIx []) (cVar 3) (cC (.int 2))) (cCons (cTup (cCons (cC (.int (-1))) (cCons (cVar 6) cNil))) cNil))) cSet)) (cAsg (cC (.bl true)) (cgSub (cVar 2) (cTup (cCons (cOp (cIx []) (cVar 3) (cC (.int 2))) (cCons (cTup (cCons (cOp (cIx []) (cVar 3) (cC (.int 3))) (cCons (cVar 6) cNil))) cNil))) cSet)))) cNext)
/-- Book.ways_from -/
def T_Book_ways_from : CTS := (cSeq (cAsg (cVar 1) (cgTup 2 (cgCons (cgName 4) (cgCons (cgName 5) cgNil))))
    (cSeq (cSetN 2 (cNewD true))
    (cSeq (cFor (ciVal (cBM ["dict"] kGet (cAttr a_by_state [] (cVar 0)) (cCons (cVar 4) (cCons (cLst cNil) cNil)))) (cgName 3) T_Book_ways_from_L1)
    (cRet (cCB cTuple (cCons (cCB cSorted (cCons (cCB cList (cCons (cVar 2) cNil)) cNil)) cNil))))))
def T_Book_fan_L1 : CTS := (cSeq (cSetN 7 (cBM ["dict"] kGet (cVar 3) (cCons (cVar 5) (cCons (cTup (cCons (cOp (cIx []) (cVar 6) (cC (.int 1))) (cCons (cTup cNil) cNil))) cNil))))
    (cIfS (cTest (cOp (InT [] true) (cOp (cIx []) (cVar 6) (cC (.int 0))) (cOp (cIx []) (cVar 7) (cC (.int 1))))) (cAsg (cTup (cCons (cOp (cIx []) (cVar 6) (cC (.int 1))) (cCons (cCB cTuple (cCons (cCB cSorted (cCons (cLst (cStar (cOp (cIx []) (cVar 7) (cC (.int 1))) (cCons (cOp (cIx []) (cVar 6) (cC (.int 0))) cNil))) cNil)) cNil)) cNil))) (cgSub (cVar 3) (cVar 5) cSet)) cNext))
def T_Book_fan_L2 : CTS := (cFor (ciVal (cMeth ((c_Book, sp_Book_ways_from, []) :: []) (cVar 0) (cCons (cTup (cCons (cVar 4) (cCons (cVar 1) cNil))) cNil))) (cgTup 2 (cgCons (cgName 5) (cgCons (cgName 6) cgNil))) T_Book_fan_L1)
/-- Book.fan -/
def T_Book_fan : CTS := (cSeq (cSetN 3 (cNewD false))
    (cSeq (cFor (ciVal (cVar 2)) (cgName 4) T_Book_fan_L2)
    (cRet (cVar 3))))
def T_Book_bears_L1 : CTS := (cSeq (cSetN 5 (cMeth ((c_Book, sp_Book_fan, []) :: []) (cVar 0) (cCons (cVar 2) (cCons (cVar 3) cNil))))
    (cSeq (cIfS (cTest (cOp (InT [] true) (cVar 4) (cVar 5))) (cRet (cC (.bl false))) cNext)
    (cAsg (cOp (cIx []) (cVar 5) (cVar 4)) (cgTup 2 (cgCons (cgName 2) (cgCons (cgName 3) cgNil))))))
/-- Book.bears -/
def T_Book_bears : CTS := (cSeq (cDrop (cCall sp_check_calling [] (cCons (cAttr a_method [] (cVar 0)) (cCons (cVar 1) cNil))))
    (cSeq (cSetN 2 (cAttr a_opening [] (cAttr a_method [] (cVar 0))))
    (cSeq (cSetN 3 (cTup (cCons (cC (.int 0)) cNil)))
    (cSeq (cFor (ciVal (cVar 1)) (cgName 4) T_Book_bears_L1)
    (cRet (cC (.bl true)))))))
theorem sp_is_places_i {pos n : Nat} {G : CH} {R : CVK} (h1 : 1 ≤ pos) (h2 : pos ≤ n) (h : R (.a (.bl true)) G) : sp_is_places [.tup [nC pos], nC n] G R := by
  refine ⟨[(pos : Int)], rfl, by simp, ?_, h⟩
  have e1 : (1 : Int) ≤ (pos : Int) := by omega
  have e2 : (pos : Int) ≤ (n : Int) := by omega
  simp [risingB, e1, e2]
theorem sp_is_integer_i {i lo hi : Int} {G : CH} {R : CVK} (h1 : lo ≤ i) (h2 : i ≤ hi) (h : R (.a (.bl true)) G) : sp_is_integer [.a (.int i), .a (.int lo), .a (.int hi)] G R := by
  refine ⟨"int", rfl, ?_⟩
  have e : isIntIn lo hi (.a (.int i)) = true := by
    show (decide (lo ≤ i) && decide (i ≤ hi)) = true
    rw [decide_eq_true h1, decide_eq_true h2]
    rfl
  rw [e]
  exact h
@[simp] theorem atI_c0 {α : Type} {x : α} {xs : List α} : L2.atI (x :: xs) 0 = some x := by
  have := atI_nat (xs := x :: xs) (j := 0) (v := x) rfl
  exact this
@[simp] theorem atI_c1 {α : Type} {x y : α} {xs : List α} : L2.atI (x :: y :: xs) 1 = some y := by
  have := atI_nat (xs := x :: y :: xs) (j := 1) (v := y) rfl
  exact this
@[simp] theorem atI_c2 {α : Type} {x y z : α} {xs : List α} : L2.atI (x :: y :: z :: xs) 2 = some z := by
  have := atI_nat (xs := x :: y :: z :: xs) (j := 2) (v := z) rfl
  exact this
@[simp] theorem atI_c3 {α : Type} {x y z w : α} {xs : List α} : L2.atI (x :: y :: z :: w :: xs) 3 = some w := by
  have := atI_nat (xs := x :: y :: z :: w :: xs) (j := 3) (v := w) rfl
  exact this
theorem p_are_wants : ∀ cs G R, sp_are_wants cs G R → T_are_wants (endR R) (cstart 4 cs) G := by
  intro cs G R h
  unfold sp_are_wants at h
  split at h
  · rename_i x i
    obtain ⟨b, pos, n, rfl, rfl, b1, b2, p1, p2, h⟩ := h
    unfold T_are_wants
    simp [cstart, isT]
    refine forL_step trivial fun K hK => ?_
    simp [T_are_wants_L1, isT]
    refine sp_is_integer_i (by omega) (by omega) ?_
    simp
    refine sp_is_places_i p1 p2 ?_
    simp
    rw [hK]
    refine dnS.here ⟨trivial, ?_⟩
    exact .of h .rfl'
  · exact h.elim
theorem p_is_entry : ∀ cs G R, sp_is_entry cs G R → T_is_entry (endR R) (cstart 2 cs) G := by
  intro cs G R h
  unfold sp_is_entry at h
  split at h
  · rename_i x p
    obtain ⟨b, e, M, rfl, hM, ok, h⟩ := h
    unfold T_is_entry
    have s := ok.s
    have a := ok.a
    simp [cstart, isT]
    refine sp_is_integer_i (by omega) (by omega) ?_
    simp
    refine sp_is_integer_i (by omega) (by omega) ?_
    simp
    refine hM.moves fun d k2 ed r2 => ?_
    rw [InT_dic ed keyOf_s rfl, r2]
    obtain ⟨y, ey⟩ := Option.isSome_iff_exists.mp ok.l
    rw [ey]
    simp [xr]
    refine hM.stage ?_
    exact ⟨b, e.pos, M.n, rfl, rfl, ok.b1, ok.b2, ok.p1, ok.p2, .of h .rfl'⟩
  · exact h.elim
theorem p_check_entries : ∀ cs G R, sp_check_entries cs G R → T_check_entries (endR R) (cstart 4 cs) G := by
  intro cs G R h
  unfold sp_check_entries at h
  split at h
  · rename_i p x
    obtain ⟨b, es, M, rfl, hM, ⟨hl, ok⟩, h⟩ := h
    unfold T_check_entries
    have loop : ∀ (l : List Ent) (i : Nat) (o2 o3 : Option CV) (t1 : CV) (D : CEnds), (∀ o2 o3, D.nx [some (.a (.ref p)), some t1, o2, o3] G) → (∀ e ∈ l, EntOk M b e) → forL (cgTup 2 (cgCons (cgName 2) (cgCons (cgName 3) cgNil))) T_check_entries_L1 D (fun _ => True) (enumAt i (l.map (entC b))) [some (.a (.ref p)), some t1, o2, o3] G := by
      intro l
      induction l with
      | nil => intro i o2 o3 t1 D hD _; exact ⟨trivial, hD _ _⟩
      | cons e l ih =>
        intro i o2 o3 t1 D hD hq
        rw [List.map_cons, enumAt_cons]
        refine forL_step trivial fun K hK => ?_
        simp [T_check_entries_L1]
        refine ⟨b, e, M, rfl, hM, hq e List.mem_cons_self, ?_⟩
        simp
        rw [hK]
        exact dnS.here (ih _ _ _ _ _ hD fun x hx => hq x (List.mem_cons_of_mem _ hx))
    have e1 : ¬ ((60 : Int) < (es.length : Int)) := by omega
    simp [cstart, isT]
    rw [enumIt_at]
    refine loop es 0 none none _ _ (fun o2 o3 => ?_) ok
    simp [e1]
    exact .of h .rfl'
  · exact h.elim
theorem dval_dput {kvs : List (NestedKey × CV)} {k j : NestedKey} {v : CV} : dval (dput kvs k v) j = if k = j then some v else dval kvs j := by
  unfold dput
  by_cases h : (kvs.any fun p => decide (p.1 = k)) = true
  · rw [if_pos h]
    by_cases e : k = j
    · subst e
      rw [if_pos rfl]
      induction kvs with
      | nil => cases h
      | cons p r ih =>
        rw [List.map_cons, dval_cons]
        by_cases e1 : p.1 = k
        · simp [e1]
        · simp only [if_neg e1]
          refine ih ?_
          rw [List.any_cons, decide_eq_false e1, Bool.false_or] at h
          exact h
    · rw [if_neg e]
      clear h
      induction kvs with
      | nil => rfl
      | cons p r ih =>
        rw [List.map_cons, dval_cons, dval_cons, ih]
        by_cases e1 : p.1 = k
        · have e2 : ¬ p.1 = j := fun z => e (by rw [← e1, z])
          simp [e1, e]
        · simp [e1]
  · rw [if_neg h, dval_app, dval_one]
    by_cases e : k = j
    · subst e
      have : dval kvs k = none := dval_out fun q hq z => h (List.any_eq_true.mpr ⟨q, hq, decide_eq_true z⟩)
      rw [this, if_pos rfl]
      simp
    · rw [if_neg e, if_neg e, Option.or_none]
/-- a comprehension with a test -/
theorem lcL_filt {α : Type} {g : CG} {tt : CTT} {te : CTE} {st : CH → Prop} {vs : List Nat} {D : Addr} {τ : CSt} {R : CVK} (f : α → CV) (pr : α → Bool) {G : CH} (hst : ∀ acc, st (cup G D (.lst acc))) : ∀ (xs : List α) (acc : List CV), acc.length + xs.length ≤ sizeLine →
    (∀ x ∈ xs, ∀ (acc : List CV) (K : CVK) (L : CH → Prop), (if pr x = true then K (f x) (cup G D (.lst acc)) else L (cup G D (.lst acc))) → g (f x) (cwipe τ vs) (cup G D (.lst acc)) fun τ2 G2 => tt τ2 G2 fun b G3 => if b = true then te τ2 G3 K else L G3) → R (.a (.ref D)) (cup G D (.lst (acc ++ (xs.filter pr).map f))) → lcL g tt te st vs D τ R (xs.map f) (cup G D (.lst acc))
  | [], acc, _, _, h => by
    rw [List.map_nil]
    unfold lcL
    exact ⟨hst acc, by simpa using h⟩
  | x :: xs, acc, hl, he, h => by
    rw [List.map_cons]
    unfold lcL
    refine ⟨hst acc, ?_⟩
    refine he x List.mem_cons_self acc _ _ ?_
    by_cases e : pr x = true
    · rw [if_pos e]
      refine ⟨acc, cup_same, by simp at hl; omega, ?_⟩
      rw [cup_cup]
      refine dnH.here (lcL_filt f pr hst xs (acc ++ [f x]) (by simp at hl ⊢; omega) (fun y hy => he y (List.mem_cons_of_mem _ hy)) ?_)
      rw [List.filter_cons_of_pos e] at h
      simpa using h
    · rw [if_neg e]
      refine dnH.here (lcL_filt f pr hst xs acc (by simp at hl ⊢; omega) (fun y hy => he y (List.mem_cons_of_mem _ hy)) ?_)
      rw [List.filter_cons_of_neg e] at h
      exact h
def wantK (b pos : Nat) : NestedKey := .tup [.tup [.num (b : Int), .tup [.num (pos : Int)]]]
def entK (b : Nat) (e : Ent) : NestedKey := .tup [.num (e.st : Int), wantK b e.pos, .text (ltS e.l), .num (e.af : Int)]
def entsK (b : Nat) (es : List Ent) : NestedKey := .tup (es.map (entK b))
theorem nkV_entK (b : Nat) (e : Ent) : nkV (entK b e) = entC b e := by
  unfold entK wantK nkV nkV.nkVs nkV.nkVs nkV.nkVs nkV.nkVs nkV.nkVs nkV nkV.nkVs nkV.nkVs nkV nkV.nkVs nkV.nkVs nkV.nkVs nkV nkV.nkVs nkV.nkVs
  rfl
theorem nkV_entsK (b : Nat) (es : List Ent) : nkV (entsK b es) = entsC b es := by
  unfold entsK nkV
  rw [nkVs_map, List.map_map]
  exact congrArg CV.tup <| List.map_congr_left fun x _ => nkV_entK b x
theorem deep_ent {G : CH} (b : Nat) (e : Ent) : DeepAt G 4 (entC b e) (entK b e) := .tup (.cons (.num _) (.cons (.tup (.cons (.tup (.cons (.num _) (.cons (.tup (.cons (.num _) .nil)) .nil))) .nil)) (.cons (.text _) (.cons (.num _) .nil))))
theorem deep_ents {G : CH} (b : Nat) (es : List Ent) : DeepAt G 5 (entsC b es) (entsK b es) := .tup (deeps_map fun x _ => deep_ent b x)
theorem big_ents {b : Nat} {es : List Ent} (h : es.length ≤ 1000) : sp_deepN.bigK (entsK b es) = false := by
  refine bigK_tup (by simpa using h) (bigKs_map fun e _ => ?_)
  refine bigK_tup (by simp) ?_
  rfl
theorem sp_check_entries_i {b : Nat} {es : List Ent} {M : Mth} {p : Addr} {G : CH} {R : CVK} (hM : MethAt G p M) (ok : EntsOk M b es) (h : R (.a .non) G) : sp_check_entries [.a (.ref p), entsC b es] G R := ⟨b, es, M, rfl, hM, ok, h⟩
@[simp] theorem cDc_e {wi : CTI} {g : CG} {tt : CTT} {tk tv : CTE} {vs : List Nat} {τ : CSt} {G : CH} {R : CVK} : cDc wi g tt tk tv vs τ G R = wi τ G fun S G1 => ∀ D, G1 D = none → dcL g tt tk tv S.st vs D τ R S.items (cup G1 D (.dic false [])) := propext Iff.rfl
theorem bput0 {v : CV} : putC a_method v [] = [(a_method, v)] := rfl
theorem bput1 {v w : CV} : putC a_entries w [(a_method, v)] = [(a_method, v), (a_entries, w)] := rfl
theorem bput2 {v w u : CV} : putC a_by_state u [(a_method, v), (a_entries, w)] = [(a_method, v), (a_entries, w), (a_by_state, u)] := rfl
theorem p_Book___init__ : ∀ cs G R, sp_Book___init__ cs G R → T_Book___init__ (endR R) (cstart 6 cs) G := by
  intro cs G R h
  unfold sp_Book___init__ at h
  split at h
  · rename_i p mp x
    obtain ⟨b, es, M, rfl, hM, ok, hp, h⟩ := h
    have hl := ok.1
    unfold T_Book___init__
    simp [cstart]
    refine sp_deep_i (by decide) (deep_ents b es) (big_ents (by omega)) ?_
    rw [nkV_entsK]
    refine sp_check_entries_i hM ok ?_
    simp [hp, bput0, bput1, cup_cup]
    generalize hG1 : cup G p (.ins c_Book [(a_method, .a (.ref mp)), (a_entries, entsC b es)]) = G1
    have hp1 : G1 p = some (.ins c_Book [(a_method, .a (.ref mp)), (a_entries, entsC b es)]) := by rw [← hG1, cup_same]
    have hM1 : MethAt G1 mp M := by rw [← hG1]; exact hM.put hp (by decide)
    have keep1 : ∀ a o, G a = some o → a ≠ p → G1 a = some o := fun a o e n => by rw [← hG1, cup_ne n]; exact e
    intro d hd
    have loop : ∀ (l done : List Ent) (kvs : List (NestedKey × CV)) (G' : CH) (Q : CVK), done ++ l = es → kvs.length ≤ done.length → Sub G1 G' → G' d = some (.dic false kvs) → ByAt G' b es kvs (done.map (·.st)) →
        (∀ G2 k2, Sub G1 G2 → G2 d = some (.dic false k2) → ByAt G2 b es k2 (es.map (·.st)) → Q (.a (.ref d)) G2) →
        dcL (cgName 4) cYes (cOp (cIx []) (cVar 4) (cC (.int 0))) (cLc (ciVal (cVar 3)) (cgName 5) (cTest (cOp cEq (cOp (cIx []) (cVar 5) (cC (.int 0))) (cOp (cIx []) (cVar 4) (cC (.int 0))))) (cVar 5) [5]) (fun _ => True) [4] d [some (.a (.ref p)), some (.a (.ref mp)), some (entsC b es), some (entsC b es), none, none] Q (l.map (entC b)) G' := by
      intro l
      induction l with
      | nil =>
        intro done kvs G' Q e hk hs hd' by' hQ
        rw [List.map_nil]
        unfold dcL
        refine ⟨trivial, hQ G' kvs hs hd' ?_⟩
        rw [List.append_nil] at e
        rw [← e] at by' ⊢
        exact by'
      | cons y l ih =>
        intro done kvs G' Q e hk hs hd' by' hQ
        rw [List.map_cons]
        unfold dcL
        refine ⟨trivial, ?_⟩
        have ll : done.length + (l.length + 1) = es.length := by rw [← e]; simp
        simp [cwipe]
        intro q hq
        have nqd : q ≠ d := fun z => by subst z; rw [hd'] at hq; cases hq
        refine lcL_filt (entC b) (fun e => e.st == y.st) (fun _ => trivial) es [] (by rw [sizeLine_eq]; simp; omega) (fun e he acc K L hK => ?_) ?_
        · simp [cwipe]
          by_cases ee : e.st = y.st
          · rw [if_pos (by simpa using ee)] at hK
            exact .inr ⟨by rw [ee], hK⟩
          · rw [if_neg (by simpa using ee)] at hK
            exact .inl ⟨by omega, hK⟩
        · refine ⟨kvs, .inl (y.st : Int), ?_, by rw [cup_ne (Ne.symm nqd)]; exact hd', by rw [sizeLine_eq]; omega, ?_⟩
          · unfold nkK nkV; rfl
          · rw [List.nil_append]
            refine dnH.here (ih (done ++ [y]) _ _ Q (by rw [List.append_assoc]; exact e) ?_ ?_ cup_same ?_ hQ)
            · exact Nat.le_trans (dput_len _ _ _) (by simp; omega)
            · intro a o ea
              have n1 : a ≠ d := fun z => by
                subst z
                rw [hd] at ea
                cases ea
              have n2 : a ≠ q := fun z => by subst z; rw [hs _ _ ea] at hq; cases hq
              rw [cup_ne n1, cup_ne n2]
              exact hs _ _ ea
            · intro s hs'
              rw [show nkK (Sum.inl (y.st : Int)) = .num (y.st : Int) from rfl, dval_dput]
              by_cases e1 : y.st = s
              · subst e1
                rw [if_pos rfl]
                exact ⟨q, rfl, by rw [cup_ne nqd, cup_same]⟩
              · rw [if_neg fun z => e1 (by injection z with z; omega)]
                rw [List.map_append] at hs'
                rcases List.mem_append.mp hs' with z | z
                · obtain ⟨q', a1, a2⟩ := by' s z
                  have m1 : q' ≠ d := fun z => by subst z; rw [hd'] at a2; cases a2
                  have m2 : q' ≠ q := fun z => by subst z; rw [hq] at a2; cases a2
                  exact ⟨q', a1, by rw [cup_ne m1, cup_ne m2]; exact a2⟩
                · simp at z
                  exact absurd z.symm e1
    have ndp : d ≠ p := fun z => by subst z; rw [hp1] at hd; cases hd
    refine loop es [] [] _ _ rfl (Nat.le_refl _) (Sub.new hd) cup_same (fun s hs => by cases hs) ?_
    intro G2 k2 s2 e2 by2
    have hp2 := s2 _ _ hp1
    refine ⟨_, hp2, by simp, ?_⟩
    rw [bput2]
    refine .of (h _ (fun a o e n => by rw [cup_ne n]; exact s2 _ _ (keep1 a o e n)) ⟨ok, mp, d, k2, ?_, cup_same, by rw [cup_ne ndp]; exact e2, ?_⟩) .rfl'
    · exact (hM1.mono s2).put hp2 (by decide)
    · intro s hs
      obtain ⟨q, a, c⟩ := by2 s hs
      have : q ≠ p := fun z => by subst z; rw [hp2] at c; cases c
      exact ⟨q, a, by rw [cup_ne this]; exact c⟩
  · exact h.elim
theorem p_applies : ∀ cs G R, sp_applies cs G R → T_applies (endR R) (cstart 4 cs) G := by
  intro cs G R h
  unfold sp_applies at h
  split at h
  · rename_i x y
    obtain ⟨b, e, r, rfl, rfl, hb, nd, h⟩ := h
    unfold T_applies
    simp [cstart]
    refine forL_step trivial fun K hK => ?_
    simp [T_applies_L1]
    unfold kIndex
    refine ⟨rfl, _, posIn b r, row_atoms r, ixAt_row (posIn_get hb) nd, ?_⟩
    simp
    refine InT_ints (xs := [(e.pos : Int)]) ?_
    by_cases ee : posIn b r + 1 = e.pos
    · rw [decide_eq_true ee] at h
      have : ((posIn b r : Int) + 1) ∈ [(e.pos : Int)] := by simp; omega
      rw [decide_eq_true this]
      simp [xr]
      rw [hK]
      exact dnS.here ⟨trivial, by simp; exact .of h .rfl'⟩
    · rw [decide_eq_false ee] at h
      have : ¬ ((posIn b r : Int) + 1) ∈ [(e.pos : Int)] := by simp; omega
      rw [decide_eq_false this]
      simp [xr]
      exact .of h .rfl'
  · exact h.elim
theorem entsRow_len : ∀ (r : List (Nat × Nat)) (m i : Nat), (entsRow m i r).length = r.length
  | [], _, _ => rfl
  | q :: r, m, i => by rw [entsRow, List.length_cons, entsRow_len r, List.length_cons]
theorem entsTb_len {n : Nat} : ∀ (t : Tb) (m : Nat), (∀ r ∈ t, r.length = n) → (entsTb m t).length = t.length * n
  | [], _, _ => by simp [entsTb]
  | r :: t, m, h => by
    rw [entsTb, List.length_append, entsRow_len, entsTb_len t (m + 1) fun x hx => h x (List.mem_cons_of_mem _ hx), h r List.mem_cons_self, List.length_cons, Nat.add_mul]
    omega
theorem mem_entsRow {e : Ent} : ∀ {r : List (Nat × Nat)} {m i : Nat}, e ∈ entsRow m i r → e.st = m ∧ i + 1 ≤ e.pos ∧ e.pos ≤ i + r.length ∧ (e.l, e.af) ∈ r
  | q :: r, m, i, h => by
    rw [entsRow] at h
    rcases List.mem_cons.mp h with z | z
    · subst z
      exact ⟨rfl, Nat.le_refl _, by simp, List.mem_cons_self⟩
    · obtain ⟨a, b, c, d⟩ := mem_entsRow z
      exact ⟨a, by omega, by simp; omega, List.mem_cons_of_mem _ d⟩
theorem mem_entsTb {e : Ent} : ∀ {t : Tb} {m : Nat}, e ∈ entsTb m t → m ≤ e.st ∧ e.st < m + t.length ∧ ∃ r ∈ t, 1 ≤ e.pos ∧ e.pos ≤ r.length ∧ (e.l, e.af) ∈ r
  | r :: t, m, h => by
    rw [entsTb] at h
    rcases List.mem_append.mp h with z | z
    · obtain ⟨a, b, c, d⟩ := mem_entsRow z
      exact ⟨by omega, by simp; omega, r, List.mem_cons_self, by omega, by omega, d⟩
    · obtain ⟨a, b, r', hr, c⟩ := mem_entsTb z
      exact ⟨by omega, by simp; omega, r', List.mem_cons_of_mem _ hr, c⟩
theorem ConOk.ents {C : Con} (ok : ConOk C) : EntsOk C.M C.bell (entsTb 0 C.t) := by
  have n8 := ok.m.n8
  have l4 := ok.t.l4
  refine ⟨?_, fun e he => ?_⟩
  · rw [entsTb_len C.t 0 ok.t.row]
    exact Nat.le_trans (Nat.mul_le_mul l4 n8) (by decide)
  · obtain ⟨a, b, r, hr, p1, p2, q⟩ := mem_entsTb he
    obtain ⟨h1, h2⟩ := ok.t.pr r hr _ q
    rw [ok.t.row r hr] at p2
    exact ⟨ok.b1, ok.b2, p1, p2, by omega, by simp only at h2; omega, h1⟩
theorem p_Conductor_as_book : ∀ cs G R, sp_Conductor_as_book cs G R → T_Conductor_as_book (endR R) (cstart 7 cs) G := by
  intro cs G R h
  unfold sp_Conductor_as_book at h
  split at h
  · rename_i p
    obtain ⟨C, ⟨ok, mp, hM, hp⟩, h⟩ := h
    have n8 := ok.m.n8
    have l4 := ok.t.l4
    have hall := ok.ents.1
    unfold T_Conductor_as_book
    simp [cstart]
    intro q hq
    have npq : p ≠ q := fun z => by subst z; rw [hp] at hq; cases hq
    have hpq : ∀ o, (cup G q o) p = some (.ins c_Conductor [(a_method, .a (.ref mp)), (a_bell, nC C.bell), (a_table, tbC C.t)]) := fun o => by rw [cup_ne npq]; exact hp
    have inner : ∀ (r : List (Nat × Nat)) (m i : Nat) (acc : List Ent) (row : CV) (o4 o5 o6 : Option CV) (D : CEnds), acc.length + r.length ≤ 60 → (∀ o4 o5 o6, D.nx [some (.a (.ref p)), some (.a (.ref q)), some (nC m), some row, o4, o5, o6] (cup G q (.lst ((acc ++ entsRow m i r).map (entC C.bell))))) →
        forL (cgTup 2 (cgCons (cgName 4) (cgCons (cgTup 2 (cgCons (cgName 5) (cgCons (cgName 6) cgNil))) cgNil))) T_Conductor_as_book_L1 D (fun _ => True) (enumAt i (r.map pairC)) [some (.a (.ref p)), some (.a (.ref q)), some (nC m), some row, o4, o5, o6] (cup G q (.lst (acc.map (entC C.bell)))) := by
      intro r
      induction r with
      | nil =>
        intro m i acc row o4 o5 o6 D _ hD
        refine ⟨trivial, ?_⟩
        have := hD o4 o5 o6
        rw [entsRow, List.append_nil] at this
        exact this
      | cons x r ih =>
        intro m i acc row o4 o5 o6 D hl hD
        rw [List.map_cons, enumAt_cons]
        refine forL_step trivial fun K hK => ?_
        simp [T_Conductor_as_book_L1, bty_l cup_same]
        refine kAttr_fld (hpq _) (v := nC C.bell) rfl ?_
        have e1 : ((i : Int) + 1) = ((i + 1 : Nat) : Int) := by omega
        refine ⟨by rw [sizeLine_eq]; decide, by rw [sizeLine_eq]; decide, by rw [sizeLine_eq]; decide, by rw [sizeLine_eq]; decide, ?_⟩
        rw [kAppend_l cup_same]
        refine ⟨by rw [sizeLine_eq]; simp at hl ⊢; omega, ?_⟩
        rw [hK, cup_cup]
        have e2 : acc.map (entC C.bell) ++ [entC C.bell ⟨m, i + 1, x.1, x.2⟩] = (acc ++ [(⟨m, i + 1, x.1, x.2⟩ : Ent)]).map (entC C.bell) := by rw [List.map_append]; rfl
        rw [e1, e2]
        refine dnS.here (ih m (i + 1) _ _ _ _ _ D (by simp at hl ⊢; omega) fun a b c => ?_)
        have := hD a b c
        rw [entsRow] at this
        simpa using this
    have outer : ∀ (t : Tb) (m : Nat) (acc : List Ent) (o2 o3 o4 o5 o6 : Option CV) (D : CEnds), acc.length + (entsTb m t).length ≤ 60 → (∀ o2 o3 o4 o5 o6, D.nx [some (.a (.ref p)), some (.a (.ref q)), o2, o3, o4, o5, o6] (cup G q (.lst ((acc ++ entsTb m t).map (entC C.bell))))) →
        forL (cgTup 2 (cgCons (cgName 2) (cgCons (cgName 3) cgNil))) T_Conductor_as_book_L2 D (fun _ => True) (enumAt m (t.map tbRowC)) [some (.a (.ref p)), some (.a (.ref q)), o2, o3, o4, o5, o6] (cup G q (.lst (acc.map (entC C.bell)))) := by
      intro t
      induction t with
      | nil =>
        intro m acc o2 o3 o4 o5 o6 D _ hD
        refine ⟨trivial, ?_⟩
        have := hD o2 o3 o4 o5 o6
        rw [entsTb, List.append_nil] at this
        exact this
      | cons r t ih =>
        intro m acc o2 o3 o4 o5 o6 D hl hD
        rw [List.map_cons, enumAt_cons]
        refine forL_step trivial fun K hK => ?_
        simp [T_Conductor_as_book_L2]
        rw [enumIt_at]
        rw [entsTb, List.length_append, entsRow_len] at hl
        refine inner r m 0 acc _ _ _ _ _ (by omega) fun a b c => ?_
        simp only
        rw [hK]
        refine dnS.here (ih (m + 1) _ _ _ _ _ _ D (by rw [List.length_append, entsRow_len]; omega) fun o2 o3 o4 o5 o6 => ?_)
        have := hD o2 o3 o4 o5 o6
        rw [entsTb, ← List.append_assoc] at this
        exact this
    refine kAttr_fld (hpq _) (v := tbC C.t) rfl ?_
    have ht : ∀ {R : CSrc → CH → Prop} {G1 : CH}, R ⟨enumAt 0 (C.t.map tbRowC), fun _ => True⟩ G1 → kEnum R (tbC C.t) G1 := fun h => h
    refine ht ?_
    refine outer C.t 0 [] none none none none none _ (by simpa using hall) fun o2 o3 o4 o5 o6 => ?_
    simp
    refine kAttr_fld (hpq _) (v := .a (.ref mp)) rfl ?_
    rw [cTuple_l cup_same]
    intro a ha
    have hGa : G a = none := by
      cases z : G a with
      | none => rfl
      | some u =>
        have : a ≠ q := fun e => by subst e; rw [hq] at z; cases z
        rw [cup_ne this, z] at ha; cases ha
    have naq : q ≠ a := fun e => by subst e; rw [cup_same] at ha; cases ha
    refine ⟨C.bell, entsTb 0 C.t, C.M, rfl, hM.mono ((Sub.new hq).put hGa), ok.ents, cup_same, fun G' keep hB => ⟨rfl, ?_⟩⟩
    refine .of (h a G' (fun x o ex => ?_) hB) .rfl'
    have n1 : x ≠ a := fun e => by subst e; rw [hGa] at ex; cases ex
    have n2 : x ≠ q := fun e => by subst e; rw [hq] at ex; cases ex
    exact keep x o (by rw [cup_ne n1, cup_ne n2]; exact ex) n1
  · exact h.elim
theorem datC_t (xs : List CV) : datC (.tup xs) = .tuple (datCs xs) := by conv => lhs; unfold datC
theorem datC_i (i : Int) : datC (.a (.int i)) = .int i := by unfold datC; rfl
theorem datC_s (z : Str) : datC (.a (.str z)) = .str z := by unfold datC; rfl
theorem datCs_c (x : CV) (xs : List CV) : datCs (x :: xs) = datC x :: datCs xs := by conv => lhs; unfold datCs
theorem datCs_n : datCs [] = [] := by unfold datCs; rfl
theorem datCs_row : ∀ r : List Nat, datCs (r.map nC) = (r.map fun n : Nat => (n : Int)).map PyData.int
  | [] => by unfold datCs; rfl
  | x :: r => by
    rw [List.map_cons]
    unfold datCs
    rw [datCs_row r]
    unfold datC
    rfl
theorem isDat_row (r : List Nat) : isDat (rowC r) = true := by
  unfold isDat
  induction r with
  | nil => rfl
  | cons x r ih =>
    rw [List.map_cons]
    unfold areDat
    rw [ih]
    rfl
theorem datC_row (r : List Nat) : datC (rowC r) = .tuple ((r.map fun n : Nat => (n : Int)).map PyData.int) := by
  show datC (.tup (r.map nC)) = _
  unfold datC
  rw [datCs_row]
theorem goal_int (M : Mth) (r : List Nat) (e : Ent) : ∃ i : Int, goalC M r e = .a (.int i) := by
  unfold goalC
  split
  · exact ⟨_, rfl⟩
  · exact ⟨_, rfl⟩
abbrev wayC (l : Nat) (i : Int) (g : List Nat) : CV := .tup [letC l, .tup [.a (.int i), rowC g]]
def wayK (l : Nat) (i : Int) (g : List Nat) : NestedKey := .tup [.text (ltS l), .tup [.num i, rowK g]]
theorem nkV_wayK (l : Nat) (i : Int) (g : List Nat) : nkV (wayK l i g) = wayC l i g := by
  unfold wayK nkV nkV.nkVs nkV.nkVs nkV.nkVs nkV nkV.nkVs nkV.nkVs nkV.nkVs
  rw [nkV_rowK]
  unfold nkV
  rfl
theorem keyOf_way (l : Nat) (i : Int) (g : List Nat) : keyOf (wayC l i g) = some (wayK l i g) := by rw [← nkV_wayK]; exact keyOf_nk _
theorem okK_way (l : Nat) (i : Int) (g : List Nat) : okK true (wayK l i g) = true := by
  unfold okK
  have e : (wayK l i g).depth = 3 := by
    unfold wayK NestedKey.depth NestedKey.depthAll NestedKey.depthAll NestedKey.depthAll NestedKey.depth NestedKey.depthAll NestedKey.depthAll NestedKey.depthAll
    rw [depth_row]
    rfl
  rw [e]
  rfl
theorem sort_one {x : CV} (h : isDat x = true) (ha : PySem.W.alike (datC x) (datC x) = true) (hs : (∃ a r, datC x = .tuple (a :: r)) ∨ (datC x ≠ .none ∧ ∀ xs, datC x ≠ .tuple xs)) (hd : (datC x).depth ≤ 40) : SortOk [x] := by
  refine ⟨?_, ?_, ?_, by rw [sizeLine_eq]; show 1 ≤ _; decide, ?_⟩
  · unfold areDat areDat; rw [h]; rfl
  · intro d h1 d' h2
    simp at h1 h2
    subst h1; subst h2
    exact ha
  · rcases hs with hs | hs
    · refine .inl fun d h1 => ?_
      simp at h1
      subst h1
      exact hs
    · refine .inr fun d h1 => ?_
      simp at h1
      subst h1
      exact hs
  · intro y hy
    rw [List.mem_singleton.mp hy]
    exact hd
theorem datC_way (l : Nat) (i : Int) (g : List Nat) : datC (wayC l i g) = .tuple [.str (ltS l), .tuple [.int i, .tuple ((g.map fun n : Nat => (n : Int)).map PyData.int)]] := by
  rw [datC_t, datCs_c, datCs_c, datCs_n, datC_s, datC_t, datCs_c, datCs_c, datCs_n, datC_i, datC_row]
theorem sortOk_way (l : Nat) (i : Int) (g : List Nat) : SortOk [wayC l i g] := by
  have ha := PySem.W.alike_ints (g.map fun n : Nat => (n : Int)) (g.map fun n : Nat => (n : Int))
  have hdp := PySem.W.depth_ints (g.map fun n : Nat => (n : Int))
  refine sort_one ?_ ?_ ?_ ?_
  · show isDat (.tup _) = true
    unfold isDat areDat areDat areDat
    rw [show isDat (.tup [.a (.int i), rowC g]) = true from by
      unfold isDat areDat areDat areDat
      rw [isDat_row]
      rfl]
    rfl
  · rw [datC_way]
    generalize ((g.map fun n : Nat => (n : Int)).map PyData.int) = z at ha
    simp [PySem.W.alike, PySem.W.alikeAll, ha]
  · rw [datC_way]
    exact .inl ⟨_, _, rfl⟩
  · rw [datC_way]
    generalize ((g.map fun n : Nat => (n : Int)).map PyData.int) = z at hdp
    simp [PyData.depth, PyData.depthAll, hdp]
theorem sortOk_int (i : Int) : SortOk [.a (.int i)] := by
  refine sort_one rfl ?_ (.inr ?_) ?_
  · unfold datC; simp [PySem.W.alike]
  · unfold datC; exact ⟨nofun, nofun⟩
  · unfold datC; simp [PyData.depth]
theorem cSorted_l {p : Addr} {xs : List CV} {G : CH} {R : CVK} (h : G p = some (.lst xs)) : cSorted [.a (.ref p)] G R = (SortOk xs ∧ ∀ q, G q = none → R (.a (.ref q)) (cup G q (.lst (xs.mergeSort leC)))) := by
  unfold cSorted
  simp only [h]
theorem cList_d {p : Addr} {t : Bool} {kvs : List (NestedKey × CV)} {G : CH} {R : CVK} (h : G p = some (.dic t kvs)) : cList [.a (.ref p)] G R = ∀ q, G q = none → R (.a (.ref q)) (cup G q (.lst (kvs.map fun kv => nkV kv.1))) := by
  unfold cList
  simp only [h]
theorem sp_applies_i {b : Nat} {e : Ent} {r : List Nat} {G : CH} {R : CVK} (hb : b ∈ r) (nd : r.Nodup) (h : R (.a (.bl (decide (posIn b r + 1 = e.pos)))) G) : sp_applies [entC b e, rowC r] G R := ⟨b, e, r, rfl, rfl, hb, nd, h⟩
def goalI (M : Mth) (r : List Nat) (e : Ent) : Int := if timesR r (M.move e.l) = List.range' 1 M.n then -1 else (e.af : Int)
theorem goalC_eq (M : Mth) (r : List Nat) (e : Ent) : goalC M r e = .a (.int (goalI M r e)) := by
  unfold goalC goalI
  split <;> rfl
theorem p_Book_ways_from : ∀ cs G R, sp_Book_ways_from cs G R → T_Book_ways_from (endR R) (cstart 7 cs) G := by
  intro cs G R h
  unfold sp_Book_ways_from at h
  split at h
  · rename_i p x
    obtain ⟨M, b, es, m, r, e0, rfl, ⟨ok, mp, d, k, hM, hp, hd, hby⟩, pr, one, h⟩ := h
    unfold OneWay at one
    generalize hF : (es.filter fun e => e.st == m) = F at one
    have memF : ∀ e ∈ F, e ∈ es ∧ e.st = m := fun e he => by
      rw [← hF] at he
      obtain ⟨a, c⟩ := List.mem_filter.mp he
      exact ⟨a, by simpa using c⟩
    have h0 : e0 ∈ F := (List.mem_filter (p := fun e => decide (posIn b r + 1 = e.pos)).mp (by rw [one]; exact List.mem_singleton.mpr rfl)).1
    obtain ⟨m1, m2⟩ := memF e0 h0
    obtain ⟨q, dq, hq⟩ := hby m (List.mem_map.mpr ⟨e0, m1, m2⟩)
    rw [hF] at hq
    have n8 := hM.1.n8
    unfold T_Book_ways_from
    simp [cstart]
    intro f hf
    refine kAttr_fld (by rw [cup_ne (show p ≠ f from fun z => by subst z; rw [hp] at hf; cases hf)]; exact hp) (v := .a (.ref d)) rfl ?_
    have ndf : d ≠ f := fun z => by subst z; rw [hd] at hf; cases hf
    have hd1 : (cup G f (.dic true [])) d = some (.dic false k) := by rw [cup_ne ndf]; exact hd
    rw [bty_d hd1]
    simp
    intro q0 hq0
    have hGq0 : G q0 = none := by
      cases z : G q0 with
      | none => rfl
      | some u =>
        have : q0 ≠ f := fun e => by subst e; rw [hf] at z; cases z
        rw [cup_ne this, z] at hq0; cases hq0
    have nfq0 : f ≠ q0 := fun e => by subst e; rw [cup_same] at hq0; cases hq0
    have ndq0 : d ≠ q0 := fun z => by subst z; rw [hd1] at hq0; cases hq0
    rw [kGet2_dic (by rw [cup_ne ndq0]; exact hd1) (keyOf_i) rfl, dq]
    simp
    have nqf : q ≠ f := fun z => by subst z; rw [hq] at hf; cases hf
    have nqq0 : q ≠ q0 := fun z => by subst z; rw [hq] at hGq0; cases hGq0
    generalize hB : cup (cup G f (.dic true [])) q0 (.lst []) = B
    have hfB : B f = some (.dic true []) := by rw [← hB, cup_ne nfq0, cup_same]
    have hsub : ∀ kv, Sub G (cup B f (.dic true kv)) := fun kv a o e => by
      have a1 : a ≠ f := fun z => by subst z; rw [hf] at e; cases e
      have a2 : a ≠ q0 := fun z => by subst z; rw [hGq0] at e; cases e
      rw [cup_ne a1, ← hB, cup_ne a2, cup_ne a1]
      exact e
    have hBe : B = cup B f (.dic true []) := by
      funext a
      by_cases z : a = f
      · subst z; rw [cup_same, hfB]
      · rw [cup_ne z]
    have hqB : ∀ kv, (cup B f (.dic true kv)) q = some (.lst (F.map (entC b))) := fun kv => hsub kv _ _ hq
    have srcB : srcOf B (.a (.ref q)) = some (sSeq q (F.map (entC b))) := srcOf_ref (by rw [hBe]; exact hqB _)
    have ap : ∀ e : Ent, wayC e.l (goalI M r e) (timesR r (M.move e.l)) = .tup [letC e.l, .tup [goalC M r e, rowC (timesR r (M.move e.l))]] := fun e => by rw [goalC_eq]
    have loop : ∀ (l : List Ent) (kv : List (NestedKey × CV)) (o3 o6 : Option CV) (D : CEnds), (∀ e ∈ l, e ∈ F) → kv ++ ((l.filter fun e => decide (posIn b r + 1 = e.pos)).map fun e => (wayK e.l (goalI M r e) (timesR r (M.move e.l)), CV.a (.bl true))) = [(wayK e0.l (goalI M r e0) (timesR r (M.move e0.l)), CV.a (.bl true))] →
        (∀ o3 o6, D.nx [some (.a (.ref p)), some (.tup [nC m, rowC r]), some (.a (.ref f)), o3, some (nC m), some (rowC r), o6] (cup B f (.dic true [(wayK e0.l (goalI M r e0) (timesR r (M.move e0.l)), CV.a (.bl true))]))) →
        forL (cgName 3) T_Book_ways_from_L1 D (fun G => CH.seq G q = some (F.map (entC b))) (l.map (entC b)) [some (.a (.ref p)), some (.tup [nC m, rowC r]), some (.a (.ref f)), o3, some (nC m), some (rowC r), o6] (cup B f (.dic true kv)) := by
      intro l
      induction l with
      | nil =>
        intro kv o3 o6 D _ e hD
        refine ⟨seq_of (hqB _), ?_⟩
        simp at e
        subst e
        exact hD _ _
      | cons y l ih =>
        intro kv o3 o6 D hm e hD
        rw [List.map_cons]
        refine forL_step (seq_of (hqB _)) fun K hK => ?_
        have hyF := hm y List.mem_cons_self
        obtain ⟨y1, y2⟩ := memF y hyF
        have oky := ok.2 y y1
        have pm := hM.1.move_perm y.l
        simp [T_Book_ways_from_L1]
        refine sp_applies_i (perm_mem pr oky.b1 oky.b2) pr.nd ?_
        have hMk : ∀ kv, MethAt (cup B f (.dic true kv)) mp M := fun kv => hM.mono (hsub kv)
        have hpk : ∀ kv, (cup B f (.dic true kv)) p = _ := fun kv => hsub kv _ _ hp
        by_cases ee : posIn b r + 1 = y.pos
        · rw [List.filter_cons_of_pos (by simpa using ee), List.map_cons] at e
          have hkv : kv = [] := by
            cases kv with
            | nil => rfl
            | cons a t => have := congrArg List.length e; simp at this
          subst hkv
          rw [List.nil_append] at e
          injection e with e1 e2
          rw [decide_eq_true ee]
          simp
          refine kAttr_fld (hpk _) (v := .a (.ref mp)) rfl ?_
          refine (hMk _).moves fun d2 k2 ed r2 => ?_
          rw [cIx_dic ed keyOf_s rfl, r2]
          obtain ⟨w, ew⟩ := Option.isSome_iff_exists.mp oky.l
          rw [ew]
          refine ⟨_, rfl, ?_⟩
          refine sp_times_i (by rw [pm.len]; omega) (pm.r100 pr) ?_
          refine kAttr_fld (hpk _) (v := .a (.ref mp)) rfl ?_
          refine (hMk _).opening ?_
          have fin : ∀ {i : Int}, i = goalI M r y → K [some (.a (.ref p)), some (.tup [nC m, rowC r]), some (.a (.ref f)), some (entC b y), some (nC m), some (rowC r), some (rowC (timesR r (M.move y.l)))] (cup (cup B f (.dic true [])) f (.dic true (dput [] (wayK y.l i (timesR r (M.move y.l))) (.a (.bl true))))) := by
            intro i hi
            rw [cup_cup, hK, hi]
            refine dnS.here (ih _ _ _ D (fun x hx => hm x (List.mem_cons_of_mem _ hx)) ?_ hD)
            rw [e2, ← e1]
            rfl
          refine ceq_row ?_
          by_cases eg : timesR r (M.move y.l) = List.range' 1 M.n
          · rw [decide_eq_true eg]
            refine .inr ⟨rfl, by rw [sizeLine_eq]; decide, ?_⟩
            rw [cSet_dic cup_same (keyOf_way y.l (-1) _) (okK_way _ _ _)]
            exact ⟨by rw [sizeLine_eq]; decide, fin (by unfold goalI; rw [if_pos eg])⟩
          · rw [decide_eq_false eg]
            refine .inl ⟨rfl, by rw [sizeLine_eq]; decide, ?_⟩
            rw [cSet_dic cup_same (keyOf_way y.l (y.af : Int) _) (okK_way _ _ _)]
            exact ⟨by rw [sizeLine_eq]; decide, fin (by unfold goalI; rw [if_neg eg])⟩
        · rw [List.filter_cons_of_neg (by simpa using ee)] at e
          rw [decide_eq_false ee]
          simp
          rw [hK]
          exact dnS.here (ih _ _ _ D (fun x hx => hm x (List.mem_cons_of_mem _ hx)) e hD)
    refine ⟨_, srcB, ?_⟩
    rw [hBe]
    refine loop F [] _ _ _ (fun e he => he) (by rw [List.nil_append, one]; rfl) fun o3 o6 => ?_
    simp
    rw [cList_d cup_same]
    intro q1 hq1
    rw [cSorted_l cup_same]
    refine ⟨?_, fun q2 hq2 => ?_⟩
    · simp only [List.map_cons, List.map_nil, nkV_wayK]
      exact sortOk_way _ _ _
    · rw [cTuple_l cup_same]
      have e1 : ([(wayK e0.l (goalI M r e0) (timesR r (M.move e0.l)), CV.a (.bl true))].map fun kv => nkV kv.1) = [wayC e0.l (goalI M r e0) (timesR r (M.move e0.l))] := by simp only [List.map_cons, List.map_nil, nkV_wayK]
      rw [e1, List.mergeSort_singleton]
      rw [← ap] at h
      have s1 := (hsub [(wayK e0.l (goalI M r e0) (timesR r (M.move e0.l)), CV.a (.bl true))])
      refine .of h ?_
      have g1 : G q1 = none := by
        cases z : G q1 with
        | none => rfl
        | some u => rw [s1 _ _ z] at hq1; cases hq1
      have s2 := s1.put (o := .lst [wayC e0.l (goalI M r e0) (timesR r (M.move e0.l))]) g1
      rw [e1] at hq2
      have g2 : G q2 = none := by
        cases z : G q2 with
        | none => rfl
        | some u => rw [s2 _ _ z] at hq2; cases hq2
      exact s2.put g2
  · exact h.elim
theorem BookAt.ins {G : CH} {p : Addr} {M : Mth} {b : Nat} {es : List Ent} (h : BookAt G p M b es) : ∃ mp d, MethAt G mp M ∧ G p = some (.ins c_Book [(a_method, .a (.ref mp)), (a_entries, entsC b es), (a_by_state, .a (.ref d))]) := by
  obtain ⟨_, mp, d, k, h1, h2, _⟩ := h
  exact ⟨mp, d, h1, h2⟩
theorem sp_ways_from_i {p : Addr} {M : Mth} {b : Nat} {es : List Ent} {m : Nat} {r : List Nat} {e : Ent} {G : CH} {R : CVK} (hB : BookAt G p M b es) (pr : Perm M.n r) (one : OneWay b es m r e) (h : R (.tup [.tup [letC e.l, .tup [goalC M r e, rowC (timesR r (M.move e.l))]]]) G) : sp_Book_ways_from [.a (.ref p), .tup [nC m, rowC r]] G R := ⟨M, b, es, m, r, e, rfl, hB, pr, one, h⟩
theorem p_Book_fan : ∀ cs G R, sp_Book_fan cs G R → T_Book_fan (endR R) (cstart 8 cs) G := by
  intro cs G R h
  unfold sp_Book_fan at h
  split at h
  · rename_i p x y
    obtain ⟨M, b, es, m, r, e, rfl, rfl, hB, pr, one, h⟩ := h
    obtain ⟨mp, db, hM, hp⟩ := hB.ins
    unfold T_Book_fan
    simp [cstart]
    intro d hd
    have npd : p ≠ d := fun z => by subst z; rw [hp] at hd; cases hd
    refine forL_step trivial fun K hK => ?_
    simp [T_Book_fan_L2]
    refine kMeth_of (by rw [cup_ne npd]; exact hp) (sd := (sp_Book_ways_from, [])) rfl ?_
    simp
    refine ⟨by rw [sizeLine_eq]; decide, ?_⟩
    refine sp_ways_from_i (hB.mono (Sub.new hd)) pr one ?_
    refine ⟨_, rfl, ?_⟩
    refine forL_step trivial fun K2 hK2 => ?_
    obtain ⟨i, hi⟩ := goal_int M r e
    rw [hi]
    simp [T_Book_fan_L1, bty_d cup_same]
    rw [kGet2_dic cup_same keyOf_s rfl, dval_nil]
    simp
    refine ⟨by rw [sizeLine_eq]; decide, ?_⟩
    refine InT_ints (xs := []) ?_
    simp [xr]
    refine ⟨by rw [sizeLine_eq]; decide, ?_⟩
    intro q hq
    have nqd : q ≠ d := fun z => by subst z; rw [cup_same] at hq; cases hq
    rw [cSorted_l cup_same]
    refine ⟨sortOk_int _, fun q2 hq2 => ?_⟩
    have nqd2 : q2 ≠ d := fun z => by subst z; rw [cup_ne (Ne.symm nqd), cup_same] at hq2; cases hq2
    rw [cTuple_l cup_same, List.mergeSort_singleton]
    refine ⟨by rw [sizeLine_eq]; decide, ?_⟩
    rw [cSet_dic (by rw [cup_ne (Ne.symm nqd2), cup_ne (Ne.symm nqd), cup_same]) keyOf_s rfl]
    refine ⟨by rw [sizeLine_eq]; decide, ?_⟩
    rw [hK2]
    refine dnS.here ⟨trivial, ?_⟩
    rw [hK]
    refine dnS.here ⟨trivial, ?_⟩
    simp
    refine .of (h d hd) ?_
    rw [hi]
    have gq : G q = none := by
      cases z : G q with
      | none => rfl
      | some u => rw [cup_ne nqd, z] at hq; cases hq
    have gq2 : G q2 = none := by
      cases z : G q2 with
      | none => rfl
      | some u =>
        have : q2 ≠ q := fun e => by subst e; rw [gq] at z; cases z
        rw [cup_ne this, cup_ne nqd2, z] at hq2; cases hq2
    intro a o ea
    by_cases ead : a = d
    · subst ead
      rw [cup_same] at ea ⊢
      exact ea
    · rw [cup_ne ead] at ea ⊢
      have n1 : a ≠ q := fun e => by subst e; rw [gq] at ea; cases ea
      have n2 : a ≠ q2 := fun e => by subst e; rw [gq2] at ea; cases ea
      rw [cup_ne n2, cup_ne n1, cup_ne ead]
      exact ea
  · exact h.elim
theorem sp_fan_i {p : Addr} {M : Mth} {b : Nat} {es : List Ent} {m : Nat} {r : List Nat} {e : Ent} {G : CH} {R : CVK} (hB : BookAt G p M b es) (pr : Perm M.n r) (one : OneWay b es m r e)
    (h : ∀ d, G d = none → R (.a (.ref d)) (cup G d (.dic false [(.text (ltS e.l), .tup [rowC (timesR r (M.move e.l)), .tup [goalC M r e]])]))) : sp_Book_fan [.a (.ref p), rowC r, .tup [nC m]] G R := ⟨M, b, es, m, r, e, rfl, rfl, hB, pr, one, h⟩
theorem p_Book_bears : ∀ cs G R, sp_Book_bears cs G R → T_Book_bears (endR R) (cstart 6 cs) G := by
  intro cs G R h
  unfold sp_Book_bears at h
  split at h
  · rename_i p z
    obtain ⟨M, b, es, c, rfl, hB, hl, hc, hb, h⟩ := h
    obtain ⟨mp, db, hM, hp⟩ := hB.ins
    unfold T_Book_bears
    have loop : ∀ (c : List Nat) (i : Int) (r : List Nat) (o4 o5 : Option CV) (t1 : CV) (G' : CH) (D : CEnds), (c = [] ∨ ∃ m : Nat, i = m ∧ Perm M.n r ∧ BearsOk M b es m r c) → Sub G G' → (∀ τ' G', Sub G G' → D.nx τ' G') →
        forL (cgName 4) T_Book_bears_L1 D (fun _ => True) (c.map letC) [some (.a (.ref p)), some t1, some (rowC r), some (.tup [.a (.int i)]), o4, o5] G' := by
      intro c
      induction c with
      | nil => intro i r o4 o5 t1 G' D _ s hD; exact ⟨trivial, hD _ _ s⟩
      | cons l c ih =>
        intro i r o4 o5 t1 G' D hcase s hD
        rcases hcase with e | ⟨m, rfl, pr, e0, one, rfl, hnx⟩
        · cases e
        · rw [List.map_cons]
          refine forL_step trivial fun K hK => ?_
          simp [T_Book_bears_L1]
          refine kMeth_of (s _ _ hp) (sd := (sp_Book_fan, [])) rfl ?_
          simp
          refine sp_fan_i (hB.mono s) pr one fun d hd => ?_
          rw [InT_dic cup_same keyOf_s rfl, dval_cons, if_pos rfl]
          simp [xr]
          rw [cIx_dic cup_same keyOf_s rfl, dval_cons, if_pos rfl]
          refine ⟨_, rfl, ?_⟩
          simp
          rw [hK, goalC_eq]
          refine dnS.here (ih _ _ _ _ _ _ D ?_ (fun a o ea => (Sub.new hd) a o (s a o ea)) hD)
          rcases hnx with e | ⟨ne, hnx⟩
          · exact .inl e
          · refine .inr ⟨e0.af, by unfold goalI; rw [if_neg ne], times_perm pr (hM.1.move_perm _), hnx⟩
    simp [cstart]
    refine kAttr_fld hp (v := .a (.ref mp)) rfl ?_
    refine sp_check_calling_i hM hl hc ?_
    refine kAttr_fld hp (v := .a (.ref mp)) rfl ?_
    refine hM.opening ?_
    refine ⟨by rw [sizeLine_eq]; decide, ?_⟩
    rw [signs_txt]
    refine loop c 0 _ none none _ G _ (.inr ⟨0, rfl, rounds_perm _, hb⟩) .rfl' (fun τ' G' s => ?_)
    exact .of h s
  · exact h.elim
structure Dr where
  cells : List Int
  pos : Nat
  big : Nat
  turn : Nat
  extra : Nat
  seed : Nat
def Dr.items (D : Dr) (q : Addr) : List CV := [.a (.ref q), nC D.pos, nC D.big, nC D.turn, nC D.extra, nC D.seed]
/-- numbers of at most so many bits -/
def smallI (b : Nat) (i : Int) : Prop := i.natAbs < 2 ^ b
structure DrOk (D : Dr) (k : Nat) : Prop where
  n : D.cells.length ≤ 63
  c : ∀ i ∈ D.cells, smallI (2 ^ 20) i
  p : D.pos ≤ 63
  b : D.big < (10 ^ 60) ^ 64
  t : D.turn ≤ 5
  x : D.extra ≤ k
  s : D.seed ≤ 2000000
structure DrawAt (G : CH) (p : Addr) (D : Dr) (q : Addr) (k : Nat) : Prop where
  ok : DrOk D k
  at_ : G p = some (.lst (D.items q))
  cells : G q = some (.lst (D.cells.map CV.int))
/-- some draw list stands at p; k picks at most were made -/
def DrawP (G : CH) (p : Addr) (k : Nat) : Prop := ∃ D q, DrawAt G p D q k
def intsC (xs : List Int) : CV := .tup (xs.map CV.int)
/-- the script -/
def ScrOk (xs : List Int) : Prop := xs.length ≤ 63 ∧ ∀ i ∈ xs, smallI (2 ^ 20) i
def sp__law_draw : CSp := fun cs G R => match cs with
  | [x] => ∃ xs : List Int, (x = intsC xs ∨ ∃ q, x = .a (.ref q) ∧ G.seq q = some (xs.map CV.int)) ∧ ScrOk xs ∧ ∀ p G', G p = none → Sub G G' → DrawP G' p 0 → R (.a (.ref p)) G'
  | _ => False
def sp__law_mix : CSp := fun cs G R => match cs with
  | [.a (.int c), .a (.int t)] => smallI 2000000 c ∧ smallI 100 t ∧ ∀ x : Nat, R (nC x) G
  | _ => False
def sp__law_pick : CSp := fun cs G R => match cs with
  | [.a (.ref p), .a (.int m)] => ∃ (M : Nat) (D : Dr) (q : Addr) (k : Nat), m = M ∧ M ≤ 1000 ∧ k ≤ 1000000 ∧ DrawAt G p D q k ∧ ∀ (x : Nat) (D' : Dr), (M < 2 → x = 0) → (1 ≤ M → x < M) → DrawAt (cup G p (.lst (D'.items q))) p D' q (k + 1) → R (nC x) (cup G p (.lst (D'.items q)))
  | _ => False
/-- _law_draw -/
def T__law_draw : CTS := (cSeq (cSetN 1 (cLc (ciVal (cVar 0)) (cgName 2) cYes (cVar 2) [2]))
    (cRet (cLst (cCons (cVar 1) (cCons (cC (.int 0)) (cCons (cC (.int 0)) (cCons (cC (.int 0)) (cCons (cC (.int 0)) (cCons (cOp cAdd (cOp cMod (cCB cInt (cCons (cCB cSum (cCons (cVar 1) cNil)) cNil)) (cC (.int 1000003))) (cOp cMul (cC (.int 7)) (cCB (cLen []) (cCons (cVar 1) cNil)))) cNil)))))))))
/-- _law_mix -/
def T__law_mix : CTS := (cSeq (cSetN 2 (cOp cMod (cCB cInt (cCons (cOp cAdd (cOp cAdd (cOp cMul (cVar 0) (cC (.int 48271))) (cOp cMul (cVar 1) (cC (.int 69621)))) (cC (.int 12345))) cNil)) (cC (.int 2147483647))))
    (cSeq (cSetN 3 (cOp cMod (cCB cInt (cCons (cOp cAdd (cOp cAdd (cOp cMul (cVar 2) (cVar 2)) (cOp cMul (cVar 1) (cC (.int 7919)))) (cVar 0)) cNil)) (cC (.int 998244353))))
    (cSeq (cSetN 3 (cOp cMod (cCB cInt (cCons (cOp cAdd (cOp cMul (cVar 3) (cVar 3)) (cVar 2)) cNil)) (cC (.int 1000000007))))
    (cRet (cOp cDiv (cVar 3) (cC (.int 8)))))))
/-- _law_pick -/
def T__law_pick : CTS := (cSeq (cIfS (cTest (cOp cLt (cVar 1) (cC (.int 2)))) (cRet (cC (.int 0))) cNext)
    (cSeq (cIfS (cAnd (cTest (cOp cEq (cOp (cIx []) (cVar 0) (cC (.int 2))) (cC (.int 0)))) (cAnd (cTest (cOp cLt (cOp (cIx []) (cVar 0) (cC (.int 1))) (cCB (cLen []) (cCons (cOp (cIx []) (cVar 0) (cC (.int 0))) cNil)))) (cTest (cOp cEq (cOp (cIx []) (cVar 0) (cC (.int 3))) (cC (.int 0)))))) (cSeq (cSetN 2 (cOp (cIx []) (cOp (cIx []) (cVar 0) (cC (.int 0))) (cOp (cIx []) (cVar 0) (cC (.int 1)))))
    (cIfS (cOr (cTest (cOp cGe (cVar 2) (cOp cPow (cC (.int 10)) (cC (.int 18))))) (cTest (cOp cLe (cVar 2) (cUn cNeg (cOp cPow (cC (.int 10)) (cC (.int 18))))))) (cSeq (cAsg (cOp cMod (cCB cInt (cCons (cCB cAbs (cCons (cVar 2) cNil)) cNil)) (cOp cPow (cOp cPow (cC (.int 10)) (cC (.int 60))) (cC (.int 64)))) (cgSub (cVar 0) (cC (.int 2)) cSet))
    (cAsg (cOp cAdd (cOp (cIx []) (cVar 0) (cC (.int 1))) (cC (.int 1))) (cgSub (cVar 0) (cC (.int 1)) cSet))) cNext)) cNext)
    (cSeq (cIfS (cTest (cOp cGt (cOp (cIx []) (cVar 0) (cC (.int 2))) (cC (.int 0)))) (cSeq (cSetN 3 (cOp cMod (cCB cInt (cCons (cOp (cIx []) (cVar 0) (cC (.int 2))) cNil)) (cVar 1)))
    (cSeq (cAsg (cOp cDiv (cOp (cIx []) (cVar 0) (cC (.int 2))) (cVar 1)) (cgSub (cVar 0) (cC (.int 2)) cSet))
    (cRet (cVar 3)))) cNext)
    (cSeq (cIfS (cTest (cOp cLt (cOp (cIx []) (cVar 0) (cC (.int 1))) (cCB (cLen []) (cCons (cOp (cIx []) (cVar 0) (cC (.int 0))) cNil)))) (cSeq (cSetN 2 (cOp (cIx []) (cOp (cIx []) (cVar 0) (cC (.int 0))) (cOp (cIx []) (cVar 0) (cC (.int 1)))))
    (cSeq (cAsg (cOp cAdd (cOp (cIx []) (cVar 0) (cC (.int 3))) (cC (.int 1))) (cgSub (cVar 0) (cC (.int 3)) cSet))
    (cSeq (cSetN 4 (cOp cMod (cCB cInt (cCons (cCall sp__law_mix [] (cCons (cOp cAdd (cVar 2) (cOp cMul (cC (.int 31)) (cOp (cIx []) (cVar 0) (cC (.int 1))))) (cCons (cOp (cIx []) (cVar 0) (cC (.int 3))) cNil))) cNil)) (cVar 1)))
    (cSeq (cIfS (cTest (cOp cEq (cOp (cIx []) (cVar 0) (cC (.int 3))) (cC (.int 6)))) (cSeq (cAsg (cC (.int 0)) (cgSub (cVar 0) (cC (.int 3)) cSet))
    (cAsg (cOp cAdd (cOp (cIx []) (cVar 0) (cC (.int 1))) (cC (.int 1))) (cgSub (cVar 0) (cC (.int 1)) cSet))) cNext)
    (cRet (cVar 4)))))) cNext)
    (cSeq (cAsg (cOp cAdd (cOp (cIx []) (cVar 0) (cC (.int 4))) (cC (.int 1))) (cgSub (cVar 0) (cC (.int 4)) cSet))
    (cRet (cOp cMod (cCB cInt (cCons (cCall sp__law_mix [] (cCons (cOp (cIx []) (cVar 0) (cC (.int 5))) (cCons (cOp cAdd (cOp (cIx []) (cVar 0) (cC (.int 4))) (cC (.int 100))) cNil))) cNil)) (cVar 1))))))))
theorem smallI.log {b : Nat} {i : Int} (h0 : 0 < b) (h : smallI b i) : i.natAbs.log2 < b := PySem.Flt.log2_lt_of h0 h
theorem smallI.le {b c : Nat} {i : Int} (h : smallI b i) (hc : b ≤ c) : smallI c i := Nat.lt_of_lt_of_le h (Nat.pow_le_pow_right (by decide) hc)
theorem smallI.of {b : Nat} {i : Int} (h : i.natAbs < 2 ^ b) : smallI b i := h
theorem smallI.add {b : Nat} {i j : Int} (h : smallI b i) (h2 : smallI b j) : smallI (b + 1) (i + j) := by
  unfold smallI at *
  have : (i + j).natAbs ≤ i.natAbs + j.natAbs := Int.natAbs_add_le i j
  rw [Nat.pow_succ]
  omega
theorem smallI.mul {b c : Nat} {i j : Int} (h : smallI b i) (h2 : smallI c j) : smallI (b + c) (i * j) := by
  unfold smallI at *
  rw [Int.natAbs_mul, Nat.pow_add]
  exact Nat.mul_lt_mul'' h h2
theorem smallI.mulB {b c : Nat} {i j : Int} (h0 : 0 < b) (h1 : 0 < c) (h : smallI b i) (h2 : smallI c j) (hb : b + c ≤ 90000000) : CMulB i j := by
  have := h.log h0
  have := h2.log h1
  unfold CMulB
  omega
theorem smallI.lit {b : Nat} {i : Int} {n : Nat} (e : i.natAbs ≤ n) (h : n < 2 ^ b) : smallI b i := Nat.lt_of_le_of_lt e h
theorem mod_small {i m : Int} {b : Nat} (hm : 0 < m) (h : m.natAbs ≤ 2 ^ b) : smallI b (i % m) := by
  have h1 := Int.emod_nonneg i (by omega : m ≠ 0)
  have h2 := Int.emod_lt_of_pos i hm
  unfold smallI
  omega
theorem p__law_mix : ∀ cs G R, sp__law_mix cs G R → T__law_mix (endR R) (cstart 4 cs) G := by
  intro cs G R h
  unfold sp__law_mix at h
  split at h
  · rename_i c t
    obtain ⟨hc, ht, h⟩ := h
    unfold T__law_mix
    simp [cstart]
    have m1 : CMulB c 48271 := hc.mulB (c := 17) (by decide) (by decide) (.lit (n := 48271) (by decide) (by decide)) (by decide)
    have m2 : CMulB t 69621 := ht.mulB (c := 17) (by decide) (by decide) (.lit (n := 69621) (by decide) (by decide)) (by decide)
    have m3 : CMulB t 7919 := ht.mulB (c := 17) (by decide) (by decide) (.lit (n := 7919) (by decide) (by decide)) (by decide)
    have s31 : ∀ i : Int, smallI 31 (i % 2147483647) := fun i => mod_small (by decide) (by decide)
    have s30 : ∀ i : Int, smallI 30 (i % 998244353) := fun i => mod_small (by decide) (by decide)
    refine ⟨m1, m2, ?_⟩
    generalize (c * 48271 + t * 69621 + 12345) = y
    refine ⟨(s31 y).mulB (by decide) (by decide) (s31 y) (by decide), m3, ?_⟩
    generalize y % 2147483647 = y1
    generalize (y1 * y1 + t * 7919 + c) = z
    refine ⟨(s30 z).mulB (by decide) (by decide) (s30 z) (by decide), ?_⟩
    generalize z % 998244353 = z1
    have hd : CDivW ((z1 * z1 + y1) % 1000000007) 8 := ⟨by decide, by decide⟩
    refine ⟨hd, ?_⟩
    have h1 := Int.emod_nonneg (z1 * z1 + y1) (by decide : (1000000007 : Int) ≠ 0)
    generalize (z1 * z1 + y1) % 1000000007 = w at h1
    have : ∃ x : Nat, w / 8 = (x : Int) := ⟨(w / 8).toNat, by omega⟩
    obtain ⟨x, e⟩ := this
    rw [e]
    exact .of (h x) .rfl'
  · exact h.elim
def T_pick_rest : CTS := (cSeq (cIfS (cTest (cOp cGt (cOp (cIx []) (cVar 0) (cC (.int 2))) (cC (.int 0)))) (cSeq (cSetN 3 (cOp cMod (cCB cInt (cCons (cOp (cIx []) (cVar 0) (cC (.int 2))) cNil)) (cVar 1)))
    (cSeq (cAsg (cOp cDiv (cOp (cIx []) (cVar 0) (cC (.int 2))) (cVar 1)) (cgSub (cVar 0) (cC (.int 2)) cSet))
    (cRet (cVar 3)))) cNext)
    (cSeq (cIfS (cTest (cOp cLt (cOp (cIx []) (cVar 0) (cC (.int 1))) (cCB (cLen []) (cCons (cOp (cIx []) (cVar 0) (cC (.int 0))) cNil)))) (cSeq (cSetN 2 (cOp (cIx []) (cOp (cIx []) (cVar 0) (cC (.int 0))) (cOp (cIx []) (cVar 0) (cC (.int 1)))))
    (cSeq (cAsg (cOp cAdd (cOp (cIx []) (cVar 0) (cC (.int 3))) (cC (.int 1))) (cgSub (cVar 0) (cC (.int 3)) cSet))
    (cSeq (cSetN 4 (cOp cMod (cCB cInt (cCons (cCall sp__law_mix [] (cCons (cOp cAdd (cVar 2) (cOp cMul (cC (.int 31)) (cOp (cIx []) (cVar 0) (cC (.int 1))))) (cCons (cOp (cIx []) (cVar 0) (cC (.int 3))) cNil))) cNil)) (cVar 1)))
    (cSeq (cIfS (cTest (cOp cEq (cOp (cIx []) (cVar 0) (cC (.int 3))) (cC (.int 6)))) (cSeq (cAsg (cC (.int 0)) (cgSub (cVar 0) (cC (.int 3)) cSet))
    (cAsg (cOp cAdd (cOp (cIx []) (cVar 0) (cC (.int 1))) (cC (.int 1))) (cgSub (cVar 0) (cC (.int 1)) cSet))) cNext)
    (cRet (cVar 4)))))) cNext)
    (cSeq (cAsg (cOp cAdd (cOp (cIx []) (cVar 0) (cC (.int 4))) (cC (.int 1))) (cgSub (cVar 0) (cC (.int 4)) cSet))
    (cRet (cOp cMod (cCB cInt (cCons (cCall sp__law_mix [] (cCons (cOp (cIx []) (cVar 0) (cC (.int 5))) (cCons (cOp cAdd (cOp (cIx []) (cVar 0) (cC (.int 4))) (cC (.int 100))) cNil))) cNil)) (cVar 1))))))
theorem T_pick_eq : T__law_pick = (cSeq (cIfS (cTest (cOp cLt (cVar 1) (cC (.int 2)))) (cRet (cC (.int 0))) cNext)
    (cSeq (cIfS (cAnd (cTest (cOp cEq (cOp (cIx []) (cVar 0) (cC (.int 2))) (cC (.int 0)))) (cAnd (cTest (cOp cLt (cOp (cIx []) (cVar 0) (cC (.int 1))) (cCB (cLen []) (cCons (cOp (cIx []) (cVar 0) (cC (.int 0))) cNil)))) (cTest (cOp cEq (cOp (cIx []) (cVar 0) (cC (.int 3))) (cC (.int 0)))))) (cSeq (cSetN 2 (cOp (cIx []) (cOp (cIx []) (cVar 0) (cC (.int 0))) (cOp (cIx []) (cVar 0) (cC (.int 1)))))
    (cIfS (cOr (cTest (cOp cGe (cVar 2) (cOp cPow (cC (.int 10)) (cC (.int 18))))) (cTest (cOp cLe (cVar 2) (cUn cNeg (cOp cPow (cC (.int 10)) (cC (.int 18))))))) (cSeq (cAsg (cOp cMod (cCB cInt (cCons (cCB cAbs (cCons (cVar 2) cNil)) cNil)) (cOp cPow (cOp cPow (cC (.int 10)) (cC (.int 60))) (cC (.int 64)))) (cgSub (cVar 0) (cC (.int 2)) cSet))
    (cAsg (cOp cAdd (cOp (cIx []) (cVar 0) (cC (.int 1))) (cC (.int 1))) (cgSub (cVar 0) (cC (.int 1)) cSet))) cNext)) cNext)
    T_pick_rest)) := rfl
@[simp] theorem atI_c4 {α : Type} {x y z w u : α} {xs : List α} : L2.atI (x :: y :: z :: w :: u :: xs) 4 = some u := by
  have := atI_nat (xs := x :: y :: z :: w :: u :: xs) (j := 4) (v := u) rfl
  exact this
@[simp] theorem atI_c5 {α : Type} {x y z w u t : α} {xs : List α} : L2.atI (x :: y :: z :: w :: u :: t :: xs) 5 = some t := by
  have := atI_nat (xs := x :: y :: z :: w :: u :: t :: xs) (j := 5) (v := t) rfl
  exact this
section
variable {H : CH} {p q : Addr} {D : Dr} {R : CVK} {S : CH → Prop} (h : H p = some (.lst (D.items q)))
include h
theorem dix0 : cIx [] (.a (.ref p)) (.a (.int 0)) H R = R (.a (.ref q)) H := by rw [cIx_l h]; unfold Dr.items; simp
theorem dix1 : cIx [] (.a (.ref p)) (.a (.int 1)) H R = R (nC D.pos) H := by rw [cIx_l h]; unfold Dr.items; simp
theorem dix2 : cIx [] (.a (.ref p)) (.a (.int 2)) H R = R (nC D.big) H := by rw [cIx_l h]; unfold Dr.items; simp
theorem dix3 : cIx [] (.a (.ref p)) (.a (.int 3)) H R = R (nC D.turn) H := by rw [cIx_l h]; unfold Dr.items; simp
theorem dix4 : cIx [] (.a (.ref p)) (.a (.int 4)) H R = R (nC D.extra) H := by rw [cIx_l h]; unfold Dr.items; simp
theorem dix5 : cIx [] (.a (.ref p)) (.a (.int 5)) H R = R (nC D.seed) H := by rw [cIx_l h]; unfold Dr.items; simp
theorem dset1 {i : Int} {v : Nat} (e : i = v) : cSet (.a (.ref p)) (.a (.int 1)) (.a (.int i)) H S = S (cup H p (.lst (({ D with pos := v } : Dr).items q))) := by
  subst e
  rw [cSet_l h]
  rfl
theorem dset2 {i : Int} {v : Nat} (e : i = v) : cSet (.a (.ref p)) (.a (.int 2)) (.a (.int i)) H S = S (cup H p (.lst (({ D with big := v } : Dr).items q))) := by
  subst e
  rw [cSet_l h]
  rfl
theorem dset3 {i : Int} {v : Nat} (e : i = v) : cSet (.a (.ref p)) (.a (.int 3)) (.a (.int i)) H S = S (cup H p (.lst (({ D with turn := v } : Dr).items q))) := by
  subst e
  rw [cSet_l h]
  rfl
theorem dset4 {i : Int} {v : Nat} (e : i = v) : cSet (.a (.ref p)) (.a (.int 4)) (.a (.int i)) H S = S (cup H p (.lst (({ D with extra := v } : Dr).items q))) := by
  subst e
  rw [cSet_l h]
  rfl
end
theorem sp__law_mix_i {c t : Int} {G : CH} {R : CVK} (hc : smallI 2000000 c) (ht : smallI 100 t) (h : ∀ x : Nat, R (nC x) G) : sp__law_mix [.a (.int c), .a (.int t)] G R := ⟨hc, ht, h⟩
theorem nat_small {n b : Nat} (h : n < 2 ^ b) : smallI b (n : Int) := by unfold smallI; simpa using h
theorem items_ne {D : Dr} {q : Addr} {xs : List Int} : D.items q ≠ xs.map CV.int := by
  unfold Dr.items
  intro h
  cases xs with
  | nil => cases h
  | cons x xs => rw [List.map_cons] at h; injection h with h _; cases h
theorem modN {x M : Nat} (hM : 0 < M) : ((x : Int) % (M : Int)) = ((x % M : Nat) : Int) := by omega
theorem pick_rest {G : CH} {p q : Addr} {D : Dr} {M k : Nat} {R : CVK} {o2 : Option CV} (ok : DrOk D k) (hq : G q = some (.lst (D.cells.map CV.int))) (npq : q ≠ p) (h2 : 2 ≤ M) (hM : M ≤ 1000) (hk : k ≤ 1000000)
    (hR : ∀ (x : Nat) (D' : Dr), x < M → DrOk D' (k + 1) → D'.cells = D.cells → R (nC x) (cup G p (.lst (D'.items q)))) : T_pick_rest (endR R) [some (.a (.ref p)), some (nC M), o2, none, none] (cup G p (.lst (D.items q))) := by
  have hq' : ∀ o, (cup G p o) q = some (.lst (D.cells.map CV.int)) := fun o => by rw [cup_ne npq]; exact hq
  have hM0 : (0 : Int) < (M : Int) := by omega
  have hdv : ∀ i : Int, CDivW i (M : Int) := fun i => ⟨hM0, by
    have : smallI 10 (M : Int) := nat_small (by omega)
    have := this.log (by decide)
    omega⟩
  unfold T_pick_rest
  simp only [cSeq_e, cIfS_e, cTest_e, cOp_e, cVar_e, cC_e, cSetN_e, cRet_e, cAsg_e, cgSub_e, cCB_e, cCons_e, cNil_e, cCall_e, cNext_e]
  refine ⟨_, rfl, ?_⟩
  rw [dix2 cup_same]
  simp only [cGt_ii]
  refine ⟨_, rfl, ?_⟩
  by_cases hb : 0 < D.big
  · rw [decide_eq_true (by omega)]
    simp only [if_true]
    refine ⟨_, rfl, ?_⟩
    rw [dix2 cup_same]
    simp only [cInt_i]
    refine ⟨_, rfl, ?_⟩
    simp only [cMod_ii]
    refine ⟨hM0, ?_⟩
    simp only [List.set]
    refine ⟨_, rfl, ?_⟩
    rw [dix2 cup_same]
    refine ⟨_, rfl, ?_⟩
    simp only [cDiv_ii]
    refine ⟨hdv _, ?_⟩
    refine ⟨_, rfl, ?_⟩
    rw [dset2 cup_same (v := D.big / M) (by omega), cup_cup]
    refine ⟨_, rfl, ?_⟩
    rw [modN (by omega)]
    refine .of (hR _ { D with big := D.big / M } (Nat.mod_lt _ (by omega)) ⟨ok.n, ok.c, ok.p, Nat.lt_of_le_of_lt (Nat.div_le_self _ _) ok.b, ok.t, by have := ok.x; show D.extra ≤ k + 1; omega, ok.s⟩ rfl) .rfl'
  · rw [decide_eq_false (by omega)]
    simp only [Bool.false_eq_true, if_false]
    refine ⟨_, rfl, ?_⟩
    rw [dix1 cup_same]
    refine ⟨_, rfl, ?_⟩
    rw [dix0 cup_same, cLen_l (hq' _)]
    simp only [cLt_ii, List.length_map]
    refine ⟨_, rfl, ?_⟩
    by_cases hp : D.pos < D.cells.length
    · rw [decide_eq_true (by omega)]
      simp only [if_true]
      refine ⟨_, rfl, ?_⟩
      rw [dix0 cup_same]
      refine ⟨_, rfl, ?_⟩
      rw [dix1 cup_same, cIx_l (hq' _), atI_nat (v := CV.int D.cells[D.pos]) (by rw [List.getElem?_map, List.getElem?_eq_getElem hp]; rfl)]
      simp only [List.set]
      refine ⟨_, rfl, ?_⟩
      rw [dix3 cup_same]
      simp only [cAdd_ii]
      refine ⟨_, rfl, ?_⟩
      rw [dset3 cup_same (v := D.turn + 1) (by omega), cup_cup]
      refine ⟨_, rfl, ?_⟩
      refine ⟨_, rfl, ?_⟩
      rw [dix1 cup_same]
      simp only [cMul_ii]
      have hpos := ok.p
      refine ⟨(smallI.lit (b := 10) (n := 31) (by decide) (by decide)).mulB (c := 10) (by decide) (by decide) (nat_small (by omega)) (by decide), ?_⟩
      simp only [cAdd_ii]
      refine ⟨_, rfl, ?_⟩
      rw [dix3 cup_same]
      have ht := ok.t
      refine sp__law_mix_i ?_ (nat_small (by show D.turn + 1 < _; omega)) fun x => ?_
      · have hc : smallI (2 ^ 20) D.cells[D.pos] := ok.c _ (List.getElem_mem hp)
        have h3 : smallI (2 ^ 20) (31 * (D.pos : Int)) := (smallI.mul (b := 10) (c := 10) (.lit (n := 31) (by decide) (by decide)) (nat_small (by omega))).le (by decide)
        exact (hc.add h3).le (by decide)
      · refine ⟨_, rfl, ?_⟩
        refine ⟨hM0, ?_⟩
        refine ⟨_, rfl, ?_⟩
        rw [dix3 cup_same]
        rw [modN (by omega)]
        have lt := Nat.mod_lt x (show 0 < M by omega)
        simp only [ceq_ii]
        refine ⟨_, rfl, ?_⟩
        by_cases e6 : D.turn + 1 = 6
        · rw [decide_eq_true (by show ((D.turn + 1 : Nat) : Int) = 6; omega)]
          simp only [if_true]
          refine ⟨_, rfl, ?_⟩
          rw [dset3 cup_same (v := 0) (by omega), cup_cup]
          refine ⟨_, rfl, ?_⟩
          rw [dix1 cup_same]
          refine ⟨_, rfl, ?_⟩
          rw [dset1 cup_same (v := D.pos + 1) (by show (D.pos : Int) + 1 = _; omega), cup_cup]
          refine ⟨_, rfl, ?_⟩
          have := ok.n
          exact .of (hR _ { D with pos := D.pos + 1, turn := 0 } lt ⟨ok.n, ok.c, by show D.pos + 1 ≤ 63; omega, ok.b, Nat.zero_le _, by have := ok.x; show D.extra ≤ k + 1; omega, ok.s⟩ rfl) .rfl'
        · rw [decide_eq_false (by show ¬ ((D.turn + 1 : Nat) : Int) = 6; omega)]
          simp only [Bool.false_eq_true, if_false]
          refine ⟨_, rfl, ?_⟩
          exact .of (hR _ { D with turn := D.turn + 1 } lt ⟨ok.n, ok.c, ok.p, ok.b, by show D.turn + 1 ≤ 5; omega, by have := ok.x; show D.extra ≤ k + 1; omega, ok.s⟩ rfl) .rfl'
    · rw [decide_eq_false (by omega)]
      simp only [Bool.false_eq_true, if_false]
      refine ⟨_, rfl, ?_⟩
      rw [dix4 cup_same]
      simp only [cAdd_ii]
      refine ⟨_, rfl, ?_⟩
      rw [dset4 cup_same (v := D.extra + 1) (by omega), cup_cup]
      refine ⟨_, rfl, ?_⟩
      rw [dix5 cup_same]
      refine ⟨_, rfl, ?_⟩
      rw [dix4 cup_same]
      have hx := ok.x
      have hs := ok.s
      have e100 : (((D.extra + 1 : Nat) : Int) + 100) = ((D.extra + 101 : Nat) : Int) := by omega
      simp only [cAdd_ii]
      simp only [e100]
      refine sp__law_mix_i ((nat_small (b := 30) (by show D.seed < _; omega)).le (by decide)) ((nat_small (b := 30) (by omega)).le (by decide)) fun x => ?_
      refine ⟨_, rfl, ?_⟩
      refine ⟨hM0, ?_⟩
      rw [modN (by omega)]
      exact .of (hR _ { D with extra := D.extra + 1 } (Nat.mod_lt x (by omega)) ⟨ok.n, ok.c, ok.p, ok.b, ok.t, by show D.extra + 1 ≤ k + 1; omega, ok.s⟩ rfl) .rfl'
theorem bits10 : (Builtin.Int.intBits (10 : Int) : Int) * 18 ≤ 2 ^ 27 := by decide +kernel
theorem bits60 : (Builtin.Int.intBits (10 : Int) : Int) * 60 ≤ 2 ^ 27 := by decide +kernel
theorem bits64 : (Builtin.Int.intBits ((10 : Int) ^ (60 : Int).toNat) : Int) * 64 ≤ 2 ^ 27 := by decide +kernel
theorem modPos : (0 : Int) < ((10 : Int) ^ (60 : Int).toNat) ^ (64 : Int).toNat := by decide +kernel
theorem modNat (i : Int) : i % (((10 : Int) ^ (60 : Int).toNat) ^ (64 : Int).toNat) = (((i % (((10 : Int) ^ (60 : Int).toNat) ^ (64 : Int).toNat)).toNat : Nat) : Int) ∧ (i % (((10 : Int) ^ (60 : Int).toNat) ^ (64 : Int).toNat)).toNat < (10 ^ 60) ^ 64 := by
  have h1 := modPos
  have e : ((10 : Int) ^ (60 : Int).toNat) ^ (64 : Int).toNat = (((10 ^ 60) ^ 64 : Nat) : Int) := by decide +kernel
  rw [e] at h1 ⊢
  generalize ((10 ^ 60) ^ 64 : Nat) = m at h1
  have h2 := Int.emod_nonneg i (by omega : (m : Int) ≠ 0)
  have h3 := Int.emod_lt_of_pos i h1
  omega
theorem p__law_pick : ∀ cs G R, sp__law_pick cs G R → T__law_pick (endR R) (cstart 5 cs) G := by
  intro cs G R h
  unfold sp__law_pick at h
  split at h
  · rename_i p m
    obtain ⟨M, D, q, k, rfl, hM, hk, ⟨ok, at_, hq⟩, h⟩ := h
    have npq : q ≠ p := fun z => by
      subst z
      rw [at_] at hq
      injection hq with hq
      injection hq with hq
      exact items_ne hq
    have hG : G = cup G p (.lst (D.items q)) := by
      funext a
      by_cases z : a = p
      · subst z; rw [cup_same, at_]
      · rw [cup_ne z]
    rw [T_pick_eq]
    simp only [cSeq_e, cIfS_e, cTest_e, cOp_e, cVar_e, cC_e, cSetN_e, cRet_e, cAsg_e, cgSub_e, cCB_e, cCons_e, cNil_e, cNext_e, cAnd_e, cOr_e, cUn_e, cstart, cLt_ii]
    refine ⟨_, rfl, _, rfl, ?_⟩
    by_cases h2 : M < 2
    · rw [decide_eq_true (by omega)]
      simp only [if_true]
      have hok : DrOk D (k + 1) := ⟨ok.n, ok.c, ok.p, ok.b, ok.t, by have := ok.x; omega, ok.s⟩
      refine .of (h 0 D (fun _ => rfl) (fun _ => by omega) ⟨hok, cup_same, by rw [cup_ne npq]; exact hq⟩) ?_
      rw [← hG]
      exact .rfl'
    · rw [decide_eq_false (by omega)]
      simp only [Bool.false_eq_true, if_false]
      have rest : ∀ (D' : Dr) (o2 : Option CV), DrOk D' k → D'.cells = D.cells → T_pick_rest (endR R) [some (.a (.ref p)), some (nC M), o2, none, none] (cup G p (.lst (D'.items q))) := fun D' o2 ok' ec =>
        pick_rest ok' (by rw [ec]; exact hq) npq (by omega) hM hk fun x D2 hx ok2 ec2 => h x D2 (fun z => absurd z h2) (fun _ => hx) ⟨ok2, cup_same, by rw [cup_ne npq, ec2, ec]; exact hq⟩
      have hq' : ∀ o, (cup G p o) q = some (.lst (D.cells.map CV.int)) := fun o => by rw [cup_ne npq]; exact hq
      rw [hG]
      have here : ∀ o2, T_pick_rest (endR R) [some (.a (.ref p)), some (nC M), o2, none, none] (cup G p (.lst (D.items q))) := fun o2 => rest D o2 ok rfl
      refine ⟨_, rfl, ?_⟩
      rw [dix2 cup_same]
      simp only [ceq_ii]
      refine ⟨_, rfl, ?_⟩
      by_cases hb : D.big = 0
      · rw [decide_eq_true (by omega)]
        simp only [if_true]
        refine ⟨_, rfl, ?_⟩
        rw [dix1 cup_same]
        refine ⟨_, rfl, ?_⟩
        rw [dix0 cup_same, cLen_l (hq' _)]
        simp only [cLt_ii, List.length_map]
        refine ⟨_, rfl, ?_⟩
        by_cases hp : D.pos < D.cells.length
        · rw [decide_eq_true (by omega)]
          simp only [if_true]
          refine ⟨_, rfl, ?_⟩
          rw [dix3 cup_same]
          simp only [ceq_ii]
          refine ⟨_, rfl, ?_⟩
          by_cases ht : D.turn = 0
          · rw [decide_eq_true (by omega)]
            simp only [if_true]
            refine ⟨_, rfl, ?_⟩
            rw [dix0 cup_same]
            refine ⟨_, rfl, ?_⟩
            rw [dix1 cup_same, cIx_l (hq' _), atI_nat (v := CV.int D.cells[D.pos]) (by rw [List.getElem?_map, List.getElem?_eq_getElem hp]; rfl)]
            simp only [List.set]
            generalize D.cells[D.pos] = c
            refine ⟨_, rfl, ?_⟩
            simp only [cPow_ii, cGe_ii]
            refine ⟨⟨by decide, bits10⟩, ⟨_, rfl, ?_⟩⟩
            by_cases g1 : (10 : Int) ^ (18 : Int).toNat ≤ c
            · rw [decide_eq_true g1]
              simp only [if_true]
              refine ⟨_, rfl, ?_⟩
              simp only [cAbs_i, cInt_i, cPow_ii, cMod_ii]
              refine ⟨⟨by decide, bits60⟩, ⟨by decide, bits64⟩, modPos, ⟨_, rfl, ?_⟩⟩
              rw [dset2 cup_same (modNat (if c < 0 then -c else c)).1, cup_cup]
              refine ⟨_, rfl, ?_⟩
              rw [dix1 cup_same]
              simp only [cAdd_ii]
              refine ⟨_, rfl, ?_⟩
              rw [dset1 cup_same (v := D.pos + 1) (by show (D.pos : Int) + 1 = _; omega), cup_cup]
              have hn := ok.n
              exact rest { D with big := _, pos := D.pos + 1 } _ ⟨ok.n, ok.c, by show D.pos + 1 ≤ 63; omega, (modNat (if c < 0 then -c else c)).2, ok.t, ok.x, ok.s⟩ rfl
            · rw [decide_eq_false g1]
              simp only [Bool.false_eq_true, if_false]
              refine ⟨_, rfl, ?_⟩
              refine ⟨⟨by decide, bits10⟩, ?_⟩
              simp only [cNeg_i, cLe_ii]
              refine ⟨_, rfl, ?_⟩
              by_cases g2 : c ≤ -((10 : Int) ^ (18 : Int).toNat)
              · rw [decide_eq_true g2]
                simp only [if_true]
                refine ⟨_, rfl, ?_⟩
                simp only [cAbs_i, cInt_i, cPow_ii, cMod_ii]
                refine ⟨⟨by decide, bits60⟩, ⟨by decide, bits64⟩, modPos, ⟨_, rfl, ?_⟩⟩
                rw [dset2 cup_same (modNat (if c < 0 then -c else c)).1, cup_cup]
                refine ⟨_, rfl, ?_⟩
                rw [dix1 cup_same]
                simp only [cAdd_ii]
                refine ⟨_, rfl, ?_⟩
                rw [dset1 cup_same (v := D.pos + 1) (by show (D.pos : Int) + 1 = _; omega), cup_cup]
                have hn := ok.n
                exact rest { D with big := _, pos := D.pos + 1 } _ ⟨ok.n, ok.c, by show D.pos + 1 ≤ 63; omega, (modNat (if c < 0 then -c else c)).2, ok.t, ok.x, ok.s⟩ rfl
              · rw [decide_eq_false g2]
                simp only [Bool.false_eq_true, if_false]
                exact here _
          · rw [decide_eq_false (by omega)]
            simp only [Bool.false_eq_true, if_false]
            exact here none
        · rw [decide_eq_false (by omega)]
          simp only [Bool.false_eq_true, if_false]
          exact here none
      · rw [decide_eq_false (by omega)]
        simp only [Bool.false_eq_true, if_false]
        exact here none
  · exact h.elim
theorem p__law_draw : ∀ cs G R, sp__law_draw cs G R → T__law_draw (endR R) (cstart 3 cs) G := by
  intro cs G R h
  unfold sp__law_draw at h
  split at h
  · rename_i x
    obtain ⟨xs, hx, ⟨hl, hc⟩, h⟩ := h
    unfold T__law_draw
    have hsrc : ∃ S : CSrc, srcOf G x = some S ∧ S.items = xs.map CV.int ∧ ∀ D acc, G D = none → S.st (cup G D (.lst acc)) := by
      rcases hx with rfl | ⟨q, rfl, e⟩
      · exact ⟨_, rfl, rfl, fun _ _ _ => trivial⟩
      · refine ⟨sSeq q (xs.map CV.int), ?_, rfl, fun D acc hD => ?_⟩
        · unfold srcOf
          simp [e]
        · show CH.seq _ q = _
          have : q ≠ D := fun z => by
            subst z
            unfold CH.seq at e
            rw [hD] at e
            cases e
          unfold CH.seq at e ⊢
          rw [cup_ne this]
          exact e
    obtain ⟨S, hS, hi, hst⟩ := hsrc
    simp only [cSeq_e, cSetN_e, cLc_e, ciVal_e, cVar_e, cstart]
    refine ⟨x, rfl, S, hS, fun d hd => ?_⟩
    rw [hi]
    refine lcL_map (fun v => v) (fun acc => hst d acc hd) _ [] (by rw [sizeLine_eq]; simp; omega) (fun v hv acc K hK => ?_) ?_
    · simp [cwipe]
      exact hK
    · rw [List.nil_append, List.map_id']
      simp [hd]
      refine ⟨xs, by unfold CH.seq; rw [cup_same], ?_⟩
      simp only [cInt_i, cMod_ii]
      refine ⟨by decide, ?_⟩
      rw [cLen_l cup_same]
      simp only [cMul_ii, List.length_map]
      refine ⟨(smallI.lit (b := 10) (n := 7) (by decide) (by decide)).mulB (c := 10) (by decide) (by decide) (nat_small (by omega)) (by decide), ?_⟩
      simp only [cAdd_ii]
      refine ⟨by rw [sizeLine_eq]; decide, fun p hp => ?_⟩
      have h1 := Int.emod_nonneg xs.sum (by decide : (1000003 : Int) ≠ 0)
      have h2 := Int.emod_lt_of_pos xs.sum (by decide : (0 : Int) < 1000003)
      have es : xs.sum % 1000003 + 7 * (xs.length : Int) = (((xs.sum % 1000003).toNat + 7 * xs.length : Nat) : Int) := by omega
      rw [es]
      have ndp : d ≠ p := fun z => by subst z; rw [cup_same] at hp; cases hp
      have gp : G p = none := by rw [cup_ne (Ne.symm ndp)] at hp; exact hp
      refine .of (h p _ gp ((Sub.new hd).put gp) ⟨⟨xs, 0, 0, 0, 0, (xs.sum % 1000003).toNat + 7 * xs.length⟩, d, ⟨hl, hc, Nat.zero_le _, ?_, Nat.zero_le _, Nat.le_refl _, by show (xs.sum % 1000003).toNat + 7 * xs.length ≤ 2000000; omega⟩, cup_same, by rw [cup_ne ndp, cup_same]⟩) .rfl'
      show 0 < (10 ^ 60) ^ 64
      decide +kernel
  · exact h.elim
/-- the heap with the draw list in a new state -/
abbrev drawn (G : CH) (p q : Addr) (D : Dr) : CH := cup G p (.lst (D.items q))
/-- a change in which the places lo and lo + 1 cross -/
inductive ChL (lo : Nat) : Nat → Nat → List Nat → Prop
  | here {k : Nat} {l : List Nat} : Ch k (lo + 2) l → ChL lo (k + 2) lo l
  | keep {k p : Nat} {l : List Nat} : ChL lo k (p + 1) l → ChL lo (k + 1) p (p :: l)
  | swap {k p : Nat} {l : List Nat} : ChL lo k (p + 2) l → ChL lo (k + 2) p l
theorem ChL.ch {lo k p : Nat} {l : List Nat} (h : ChL lo k p l) : Ch k p l := by
  induction h with
  | here h => exact .swap h
  | keep _ ih => exact .keep ih
  | swap _ ih => exact .swap ih
/-- what a led change is: low 0: the place 1 is kept -/
def Led (n lo : Nat) (l : List Nat) : Prop := if lo = 0 then ∃ l', l = 1 :: l' ∧ Ch n 1 l else ChL lo n 1 l
def sp__law_change : CSp := fun cs G R => match cs with
  | [.a (.ref p), .a (.int i)] => ∃ (n : Nat) (D : Dr) (q : Addr) (k : Nat), i = n ∧ n ≤ 8 ∧ k ≤ 900000 ∧ DrawAt G p D q k ∧ ∀ (l : List Nat) (D' : Dr), Ch n 1 l → DrawAt (drawn G p q D') p D' q (k + 100) → R (rowC l) (drawn G p q D')
  | _ => False
def sp__law_led_change : CSp := fun cs G R => match cs with
  | [.a (.ref p), .a (.int i), .a (.int j)] => ∃ (n lo : Nat) (D : Dr) (q : Addr) (k : Nat), i = n ∧ j = lo ∧ 1 ≤ n ∧ n ≤ 8 ∧ lo < n ∧ k ≤ 900000 ∧ DrawAt G p D q k ∧ ∀ (l : List Nat) (D' : Dr), Led n lo l → DrawAt (drawn G p q D') p D' q (k + 100) → R (rowC l) (drawn G p q D')
  | _ => False
def T__law_change_L1 : CTS := (cSeq (cIfS (cAnd (cTest (cOp cLt (cVar 3) (cVar 1))) (cTest (cOp cGt (cCall sp__law_pick [] (cCons (cVar 0) (cCons (cC (.int 3)) cNil))) (cC (.int 0))))) (cSetN 3 (cOp cAdd (cVar 3) (cC (.int 1)))) (cIfS (cTest (cOp cLe (cVar 3) (cVar 1))) (cDrop (cBM ["list"] kAppend (cVar 2) (cCons (cVar 3) cNil))) cNext))
    (cSetN 3 (cOp cAdd (cVar 3) (cC (.int 1)))))
/-- _law_change -/
def T__law_change : CTS := (cSeq (cSetN 2 (cLst cNil))
    (cSeq (cSetN 3 (cC (.int 1)))
    (cSeq (cFor (ciRg1 (cVar 1)) (cgName 4) T__law_change_L1)
    (cRet (cCB cTuple (cCons (cVar 2) cNil))))))
def T__law_led_change_L1 : CTS := (cSeq (cIfS (cTest (cOp cEq (cVar 4) (cVar 2))) (cSetN 4 (cOp cAdd (cVar 4) (cC (.int 1)))) (cIfS (cAnd (cTest (cOp cLt (cVar 4) (cVar 1))) (cAnd (cTest (cOp cNe (cOp cAdd (cVar 4) (cC (.int 1))) (cVar 2))) (cAnd (cTest (cOp cGt (cOp cAdd (cVar 4) (cVar 2)) (cC (.int 1)))) (cTest (cOp cGt (cCall sp__law_pick [] (cCons (cVar 0) (cCons (cC (.int 3)) cNil))) (cC (.int 0))))))) (cSetN 4 (cOp cAdd (cVar 4) (cC (.int 1)))) (cIfS (cTest (cOp cLe (cVar 4) (cVar 1))) (cDrop (cBM ["list"] kAppend (cVar 3) (cCons (cVar 4) cNil))) cNext)))
    (cSetN 4 (cOp cAdd (cVar 4) (cC (.int 1)))))
/-- _law_led_change -/
def T__law_led_change : CTS := (cSeq (cSetN 3 (cLst cNil))
    (cSeq (cSetN 4 (cC (.int 1)))
    (cSeq (cFor (ciRg1 (cVar 1)) (cgName 5) T__law_led_change_L1)
    (cRet (cCB cTuple (cCons (cVar 3) cNil))))))
theorem DrawAt.neq {G : CH} {p q : Addr} {D : Dr} {k : Nat} (h : DrawAt G p D q k) : q ≠ p := fun z => by
  have a := h.at_
  have c := h.cells
  subst z
  rw [a] at c
  injection c with c
  injection c with c
  exact items_ne c
theorem DrawAt.le {G : CH} {p q : Addr} {D : Dr} {k k' : Nat} (h : DrawAt G p D q k) (hk : k ≤ k') : DrawAt G p D q k' := ⟨⟨h.ok.n, h.ok.c, h.ok.p, h.ok.b, h.ok.t, Nat.le_trans h.ok.x hk, h.ok.s⟩, h.at_, h.cells⟩
theorem DrawAt.self {G : CH} {p q : Addr} {D : Dr} {k : Nat} (h : DrawAt G p D q k) : drawn G p q D = G := by
  funext a
  by_cases z : a = p
  · subst z; show cup G a _ a = _; rw [cup_same, h.at_]
  · show cup G p _ a = _; rw [cup_ne z]
/-- a draw in a heap with another new list -/
theorem sp_pick_i {H : CH} {p q : Addr} {D : Dr} {k M : Nat} {R : CVK} (hM : M ≤ 1000) (hk : k ≤ 1000000) (h : DrawAt H p D q k) (hR : ∀ (x : Nat) (D' : Dr), (M < 2 → x = 0) → (1 ≤ M → x < M) → DrawAt (drawn H p q D') p D' q (k + 1) → R (nC x) (drawn H p q D')) : sp__law_pick [.a (.ref p), nC M] H R := ⟨M, D, q, k, rfl, hM, hk, h, hR⟩
theorem cup_swap {G : CH} {a p : Addr} {o u : CO} (h : a ≠ p) : cup (cup G a o) p u = cup (cup G p u) a o := by
  funext x
  by_cases e1 : x = a
  · subst e1
    rw [cup_ne h, cup_same, cup_same]
  · by_cases e2 : x = p
    · subst e2
      rw [cup_same, cup_ne e1, cup_same]
    · rw [cup_ne e2, cup_ne e1, cup_ne e1, cup_ne e2]
theorem p__law_change : ∀ cs G R, sp__law_change cs G R → T__law_change (endR R) (cstart 5 cs) G := by
  intro cs G R h
  unfold sp__law_change at h
  split at h
  · rename_i p i
    obtain ⟨n, D, q, k, rfl, hn, hk, hD, h⟩ := h
    unfold T__law_change
    simp [cstart]
    intro a ha
    have nap : a ≠ p := fun z => by subst z; rw [hD.at_] at ha; cases ha
    have naq : a ≠ q := fun z => by subst z; rw [hD.cells] at ha; cases ha
    have atD : ∀ {D : Dr} {k' : Nat} {o : CO}, DrawAt (drawn G p q D) p D q k' → DrawAt (cup (drawn G p q D) a o) p D q k' := fun {D k' o} hd => ⟨hd.ok, by rw [cup_ne (Ne.symm nap)]; exact hd.at_, by rw [cup_ne (Ne.symm naq)]; exact hd.cells⟩
    have loop : ∀ (l : List CV) (acc : List Nat) (s : Nat) (D : Dr) (k' : Nat) (o4 : Option CV) (E : CEnds), acc.length + l.length ≤ 8 → n + 1 ≤ s + l.length → 1 ≤ s → ((s ≤ n + 1 ∧ ∀ l', Ch (n + 1 - s) s l' → Ch n 1 (acc ++ l')) ∨ (n + 1 < s ∧ Ch n 1 acc)) → k' + l.length ≤ k + 8 → DrawAt (drawn G p q D) p D q k' →
        (∀ acc s D k' o4, Ch n 1 acc → k' ≤ k + 8 → DrawAt (drawn G p q D) p D q k' → E.nx [some (.a (.ref p)), some (nC n), some (.a (.ref a)), some (nC s), o4] (cup (drawn G p q D) a (.lst (acc.map nC)))) →
        forL (cgName 4) T__law_change_L1 E (fun _ => True) l [some (.a (.ref p)), some (nC n), some (.a (.ref a)), some (nC s), o4] (cup (drawn G p q D) a (.lst (acc.map nC))) := by
      intro l
      induction l with
      | nil =>
        intro acc s D k' o4 E _ h2 h1 hI hk' hd hE
        refine ⟨trivial, hE acc s D k' o4 ?_ (by simpa using hk') hd⟩
        rcases hI with ⟨h3, h4⟩ | ⟨_, h4⟩
        · have e : s = n + 1 := by simp at h2; omega
          subst e
          have := h4 [] (by rw [Nat.sub_self]; exact .nil _)
          simpa using this
        · exact h4
      | cons x l ih =>
        intro acc s D k' o4 E hl h2 h1 hI hk' hd hE
        simp only [List.length_cons] at hl h2 hk'
        refine forL_step trivial fun K hK => ?_
        simp [T__law_change_L1]
        have e2 : ((s : Int) + 1 + 1) = ((s + 2 : Nat) : Int) := by omega
        have e1 : ((s : Int) + 1) = ((s + 1 : Nat) : Int) := by omega
        have keep : ∀ (D : Dr) (k2 : Nat), s ≤ n → k2 ≤ k' + 1 → DrawAt (drawn G p q D) p D q k2 → kAppend "list" (.a (.ref a)) [nC s] (cup (drawn G p q D) a (.lst (acc.map nC))) fun _ G1 => K [some (.a (.ref p)), some (nC n), some (.a (.ref a)), some (.a (.int ((s : Int) + 1))), some x] G1 := by
          intro D k2 hs hk2 hd2
          rw [kAppend_l cup_same]
          refine ⟨by rw [sizeLine_eq]; simp; omega, ?_⟩
          rw [hK, cup_cup, e1, show acc.map nC ++ [nC s] = (acc ++ [s]).map nC from by rw [List.map_append]; rfl]
          rcases hI with ⟨h3, h4⟩ | ⟨h3, _⟩
          · refine dnS.here (ih (acc ++ [s]) (s + 1) D k2 _ E (by simp; omega) (by omega) (by omega) (.inl ⟨by omega, fun l' c => ?_⟩) (by omega) hd2 hE)
            have := h4 (s :: l') (by rw [show n + 1 - s = (n + 1 - (s + 1)) + 1 from by omega]; exact .keep c)
            simpa using this
          · omega
        by_cases hlt : s < n
        · refine .inr ⟨hlt, ?_⟩
          refine sp_pick_i (M := 3) (by omega) (by omega) (atD hd) fun y D' _ _ hd' => ?_
          have hd2 : DrawAt (drawn G p q D') p D' q (k' + 1) := ⟨hd'.ok, cup_same, by
            have := hd'.cells
            change cup (cup (cup G p _) a _) p _ q = _ at this
            show cup G p _ q = _
            rw [cup_ne hD.neq, cup_ne (Ne.symm naq), cup_ne hD.neq] at this
            rw [cup_ne hD.neq]
            exact this⟩
          have eh : drawn (cup (drawn G p q D) a (.lst (acc.map nC))) p q D' = cup (drawn G p q D') a (.lst (acc.map nC)) := by
            show cup (cup _ a _) p _ = _
            rw [cup_swap nap, cup_cup]
          rw [eh]
          rw [cGt_ii]
          by_cases hy : 0 < y
          · refine .inr ⟨by rw [decide_eq_true (by omega)], ?_⟩
            rw [hK, e2]
            rcases hI with ⟨h3, h4⟩ | ⟨h3, _⟩
            · refine dnS.here (ih acc (s + 2) D' (k' + 1) _ E (by omega) (by omega) (by omega) (.inl ⟨by omega, fun l' c => ?_⟩) (by omega) hd2 hE)
              exact h4 l' (by rw [show n + 1 - s = (n + 1 - (s + 2)) + 2 from by omega]; exact .swap c)
            · omega
          · refine .inl ⟨by rw [decide_eq_false (by omega)], .inr ⟨by omega, bty_l cup_same, keep D' (k' + 1) (by omega) (Nat.le_refl _) hd2⟩⟩
        · refine .inl ⟨by omega, ?_⟩
          by_cases hle : s ≤ n
          · exact .inr ⟨hle, bty_l cup_same, keep D k' hle (by omega) hd⟩
          · refine .inl ⟨by omega, ?_⟩
            rw [hK, e1]
            refine dnS.here (ih acc (s + 1) D k' _ E (by omega) (by omega) (by omega) (.inr ⟨by omega, ?_⟩) (by omega) hd hE)
            rcases hI with ⟨h3, h4⟩ | ⟨_, h4⟩
            · have e : s = n + 1 := by omega
              subst e
              have := h4 [] (by rw [Nat.sub_self]; exact .nil _)
              simpa using this
            · exact h4
    have eG : cup G a (.lst []) = cup (drawn G p q D) a (.lst (([] : List Nat).map nC)) := by rw [hD.self]; rfl
    rw [eG]
    refine ⟨by omega, ?_⟩
    refine loop ((List.range n).map fun i : Nat => CV.int (i : Int)) [] 1 D k none _ (by simp; omega) (by simp; omega) (Nat.le_refl _) (.inl ⟨by omega, fun l' c => by simpa using c⟩) (by simp; omega) (by rw [hD.self]; exact hD) fun acc s D' k' o4 hc hk' hd' => ?_
    simp
    rw [cTuple_l cup_same]
    refine .of (h acc D' hc (hd'.le (by omega))) (Sub.new ?_)
    show cup G p _ a = _
    rw [cup_ne nap]
    exact ha
  · exact h.elim
/-- what holds of the places kept so far -/
def LI (n lo : Nat) (acc : List Nat) (s : Nat) : Prop :=
  (1 ≤ s ∧ s ≤ lo ∧ ∀ l', ChL lo (n + 1 - s) s l' → ChL lo n 1 (acc ++ l')) ∨ (lo = 0 ∧ s = 1 ∧ acc = []) ∨ (lo < s ∧ 1 < s ∧ s ≤ n + 1 ∧ ∀ l', Ch (n + 1 - s) s l' → Led n lo (acc ++ l')) ∨ (n + 1 < s ∧ Led n lo acc)
section
variable {n lo s : Nat} {acc : List Nat}
theorem LI.start (h : lo < n) : LI n lo [] 1 := by
  by_cases e : lo = 0
  · exact .inr (.inl ⟨e, rfl, rfl⟩)
  · exact .inl ⟨Nat.le_refl _, by omega, fun l' c => by simpa using c⟩
theorem LI.cross (hl : lo < n) (h0 : 1 ≤ s) (e : s = lo) (h : LI n lo acc s) : LI n lo acc (s + 2) := by
  subst e
  rcases h with ⟨_, _, h⟩ | ⟨z, _⟩ | ⟨z, _⟩ | ⟨z, _⟩
  · refine .inr (.inr (.inl ⟨by omega, by omega, by omega, fun l' c => ?_⟩))
    unfold Led
    rw [if_neg (by omega)]
    exact h l' (by rw [show n + 1 - s = (n + 1 - (s + 2)) + 2 from by omega]; exact .here c)
  · omega
  · omega
  · omega
theorem LI.swap (hs : s < n) (h1 : s + 1 ≠ lo) (h2 : 1 < s + lo) (h3 : s ≠ lo) (h : LI n lo acc s) : LI n lo acc (s + 2) := by
  rcases h with ⟨a, b, h⟩ | ⟨z, e, _⟩ | ⟨a, b, c, h⟩ | ⟨z, _⟩
  · refine .inl ⟨by omega, by omega, fun l' c => h l' ?_⟩
    rw [show n + 1 - s = (n + 1 - (s + 2)) + 2 from by omega]
    exact .swap c
  · omega
  · refine .inr (.inr (.inl ⟨by omega, by omega, by omega, fun l' c => h l' ?_⟩))
    rw [show n + 1 - s = (n + 1 - (s + 2)) + 2 from by omega]
    exact .swap c
  · omega
theorem LI.keep (hs : s ≤ n) (h3 : s ≠ lo) (h : LI n lo acc s) : LI n lo (acc ++ [s]) (s + 1) := by
  rcases h with ⟨a, b, h⟩ | ⟨z, e, e2⟩ | ⟨a, b, c, h⟩ | ⟨z, _⟩
  · refine .inl ⟨by omega, by omega, fun l' c => ?_⟩
    have := h (s :: l') (by rw [show n + 1 - s = (n + 1 - (s + 1)) + 1 from by omega]; exact .keep c)
    simpa using this
  · subst e e2 z
    refine .inr (.inr (.inl ⟨by omega, by omega, by omega, fun l' c => ?_⟩))
    unfold Led
    rw [if_pos rfl]
    refine ⟨l', rfl, ?_⟩
    have e : n = (n + 1 - 2) + 1 := by omega
    show Ch n 1 (1 :: l')
    rw [e]
    exact .keep c
  · refine .inr (.inr (.inl ⟨by omega, by omega, by omega, fun l' c => ?_⟩))
    have := h (s :: l') (by rw [show n + 1 - s = (n + 1 - (s + 1)) + 1 from by omega]; exact .keep c)
    simpa using this
  · omega
theorem LI.fin (hl : lo < n) (hs : n < s) (h : LI n lo acc s) : Led n lo acc := by
  rcases h with ⟨a, b, h⟩ | ⟨z, e, e2⟩ | ⟨a, b, c, h⟩ | ⟨z, h⟩
  · omega
  · omega
  · have e : s = n + 1 := by omega
    subst e
    have := h [] (by rw [Nat.sub_self]; exact .nil _)
    simpa using this
  · exact h
theorem LI.idle (hl : lo < n) (hs : n < s) (h : LI n lo acc s) : LI n lo acc (s + 1) := .inr (.inr (.inr ⟨by omega, h.fin hl hs⟩))
end
theorem p__law_led_change : ∀ cs G R, sp__law_led_change cs G R → T__law_led_change (endR R) (cstart 6 cs) G := by
  intro cs G R h
  unfold sp__law_led_change at h
  split at h
  · rename_i p i j
    obtain ⟨n, lo, D, q, k, rfl, rfl, n1, hn, hlo, hk, hD, h⟩ := h
    unfold T__law_led_change
    simp [cstart]
    intro a ha
    have nap : a ≠ p := fun z => by subst z; rw [hD.at_] at ha; cases ha
    have naq : a ≠ q := fun z => by subst z; rw [hD.cells] at ha; cases ha
    have atD : ∀ {D : Dr} {k' : Nat} {o : CO}, DrawAt (drawn G p q D) p D q k' → DrawAt (cup (drawn G p q D) a o) p D q k' := fun {D k' o} hd => ⟨hd.ok, by rw [cup_ne (Ne.symm nap)]; exact hd.at_, by rw [cup_ne (Ne.symm naq)]; exact hd.cells⟩
    have loop : ∀ (l : List CV) (acc : List Nat) (s : Nat) (D : Dr) (k' : Nat) (o4 : Option CV) (E : CEnds), acc.length + l.length ≤ 8 → n + 1 ≤ s + l.length → 1 ≤ s → LI n lo acc s → k' + l.length ≤ k + 8 → DrawAt (drawn G p q D) p D q k' →
        (∀ acc s D k' o4, Led n lo acc → k' ≤ k + 8 → DrawAt (drawn G p q D) p D q k' → E.nx [some (.a (.ref p)), some (nC n), some (nC lo), some (.a (.ref a)), some (nC s), o4] (cup (drawn G p q D) a (.lst (acc.map nC)))) →
        forL (cgName 5) T__law_led_change_L1 E (fun _ => True) l [some (.a (.ref p)), some (nC n), some (nC lo), some (.a (.ref a)), some (nC s), o4] (cup (drawn G p q D) a (.lst (acc.map nC))) := by
      intro l
      induction l with
      | nil =>
        intro acc s D k' o4 E _ h2 h1 hI hk' hd hE
        refine ⟨trivial, hE acc s D k' o4 (hI.fin hlo (by simp at h2; omega)) (by simpa using hk') hd⟩
      | cons x l ih =>
        intro acc s D k' o4 E hl h2 h1 hI hk' hd hE
        simp only [List.length_cons] at hl h2 hk'
        refine forL_step trivial fun K hK => ?_
        simp [T__law_led_change_L1]
        have e2 : ((s : Int) + 1 + 1) = ((s + 2 : Nat) : Int) := by omega
        have e1 : ((s : Int) + 1) = ((s + 1 : Nat) : Int) := by omega
        have tail : ∀ (D : Dr) (k2 : Nat) , s ≠ lo → k2 ≤ k' + 1 → DrawAt (drawn G p q D) p D q k2 → (n < s ∧ K [some (.a (.ref p)), some (nC n), some (nC lo), some (.a (.ref a)), some (.a (.int ((s : Int) + 1))), some x] (cup (drawn G p q D) a (.lst (acc.map nC))) ∨ s ≤ n ∧ bty (cup (drawn G p q D) a (.lst (acc.map nC))) (.a (.ref a)) = some "list" ∧ kAppend "list" (.a (.ref a)) [nC s] (cup (drawn G p q D) a (.lst (acc.map nC))) fun _ G1 => K [some (.a (.ref p)), some (nC n), some (nC lo), some (.a (.ref a)), some (.a (.int ((s : Int) + 1))), some x] G1) := by
          intro D k2 hs hk2 hd2
          by_cases hle : s ≤ n
          · refine .inr ⟨hle, bty_l cup_same, ?_⟩
            rw [kAppend_l cup_same]
            refine ⟨by rw [sizeLine_eq]; simp; omega, ?_⟩
            rw [hK, cup_cup, e1, show acc.map nC ++ [nC s] = (acc ++ [s]).map nC from by rw [List.map_append]; rfl]
            exact dnS.here (ih (acc ++ [s]) (s + 1) D k2 _ E (by simp; omega) (by omega) (by omega) (hI.keep hle hs) (by omega) hd2 hE)
          · refine .inl ⟨by omega, ?_⟩
            rw [hK, e1]
            exact dnS.here (ih acc (s + 1) D k2 _ E (by omega) (by omega) (by omega) (hI.idle hlo (by omega)) (by omega) hd2 hE)
        by_cases hsl : s = lo
        · refine .inr ⟨by omega, ?_⟩
          rw [hK, e2]
          exact dnS.here (ih acc (s + 2) D k' _ E (by omega) (by omega) (by omega) (hI.cross hlo h1 hsl) (by omega) hd hE)
        · refine .inl ⟨by omega, ?_⟩
          by_cases hsn : s < n
          · refine .inr ⟨hsn, ?_⟩
            by_cases hs1 : s + 1 = lo
            · exact .inl ⟨by omega, tail D k' hsl (by omega) hd⟩
            · refine .inr ⟨by omega, ?_⟩
              by_cases hs2 : 1 < s + lo
              · refine .inr ⟨by omega, ?_⟩
                refine sp_pick_i (M := 3) (by omega) (by omega) (atD hd) fun y D' _ _ hd' => ?_
                have hd2 : DrawAt (drawn G p q D') p D' q (k' + 1) := ⟨hd'.ok, cup_same, by
                  have := hd'.cells
                  change cup (cup (cup G p _) a _) p _ q = _ at this
                  show cup G p _ q = _
                  rw [cup_ne hD.neq, cup_ne (Ne.symm naq), cup_ne hD.neq] at this
                  rw [cup_ne hD.neq]
                  exact this⟩
                have eh : drawn (cup (drawn G p q D) a (.lst (acc.map nC))) p q D' = cup (drawn G p q D') a (.lst (acc.map nC)) := by
                  show cup (cup _ a _) p _ = _
                  rw [cup_swap nap, cup_cup]
                rw [eh]
                rw [cGt_ii]
                by_cases hy : 0 < y
                · refine .inr ⟨by rw [decide_eq_true (by omega)], ?_⟩
                  rw [hK, e2]
                  exact dnS.here (ih acc (s + 2) D' (k' + 1) _ E (by omega) (by omega) (by omega) (hI.swap hsn hs1 hs2 hsl) (by omega) hd2 hE)
                · exact .inl ⟨by rw [decide_eq_false (by omega)], tail D' (k' + 1) hsl (Nat.le_refl _) hd2⟩
              · exact .inl ⟨by omega, tail D k' hsl (by omega) hd⟩
          · exact .inl ⟨by omega, tail D k' hsl (by omega) hd⟩
    have eG : cup G a (.lst []) = cup (drawn G p q D) a (.lst (([] : List Nat).map nC)) := by rw [hD.self]; rfl
    rw [eG]
    refine ⟨by omega, ?_⟩
    refine loop ((List.range n).map fun i : Nat => CV.int (i : Int)) [] 1 D k none _ (by simp; omega) (by simp; omega) (Nat.le_refl _) (.start hlo) (by simp; omega) (by rw [hD.self]; exact hD) fun acc s D' k' o4 hc hk' hd' => ?_
    simp
    rw [cTuple_l cup_same]
    refine .of (h acc D' hc (hd'.le (by omega))) (Sub.new ?_)
    show cup G p _ a = _
    rw [cup_ne nap]
    exact ha
  · exact h.elim
@[simp] theorem ciRg3_e {τ : CSt} {G : CH} {T U W : CTE} {R : CSrc → CH → Prop} : ciRg3 T U W τ G R = T τ G fun c G1 => U τ G1 fun d G2 => W τ G2 fun e G3 => ∃ (i j k : Int) (n : Nat), c = .a (.int i) ∧ d = .a (.int j) ∧ e = .a (.int k) ∧ RgC i j k n ∧ R (sVal ((List.range n).map fun m => CV.int (i + (m : Nat) * k))) G3 := propext Iff.rfl
theorem forL_inv {g : CG} {tb : CTS} {D : CEnds} {st : CH → Prop} (I : Nat → CSt → CH → Prop) (xs : List CV)
    (step : ∀ i x, xs[i]? = some x → ∀ τ G, I i τ G → ∀ (K B : CSt → CH → Prop), (∀ τ G, I (i + 1) τ G → K τ G) → (∀ τ G, D.nx τ G → B τ G) → st G ∧ g x τ G fun τ1 G1 => tb ⟨K, D.rt, B, K⟩ τ1 G1)
    (fin : ∀ τ G, I xs.length τ G → st G ∧ D.nx τ G) {τ : CSt} {G : CH} (h : I 0 τ G) : forL g tb D st xs τ G := by
  have : ∀ (ys : List CV) (i : Nat), i + ys.length = xs.length → xs.drop i = ys → ∀ τ G, I i τ G → forL g tb D st ys τ G := by
    intro ys
    induction ys with
    | nil =>
      intro i hl hd τ G hI
      have : i = xs.length := by simpa using hl
      subst this
      exact fin τ G hI
    | cons y ys ih =>
      intro i hl hd τ G hI
      have hy : xs[i]? = some y := by
        have := List.getElem?_drop (xs := xs) (i := i) (j := 0)
        rw [hd] at this
        simpa using this.symm
      obtain ⟨h1, h2⟩ := step i y hy τ G hI (dnS (forL g tb D st ys)) (dnS D.nx) (fun τ G q => dnS.here (ih (i + 1) (by simp at hl; omega) (by rw [← List.drop_drop (i := 1) (j := i), hd]; rfl) τ G q)) (fun τ G q => dnS.here q)
      exact ⟨h1, h2⟩
  exact this xs 0 (by simp) (by simp) τ G h
theorem lcL_inv {g : CG} {tt : CTT} {te : CTE} {st : CH → Prop} {vs : List Nat} {d : Addr} {τ : CSt} {R : CVK} (I : Nat → List CV → CH → Prop) (xs : List CV) (hl : xs.length ≤ sizeLine)
    (step : ∀ i x, xs[i]? = some x → ∀ acc G, G d = some (.lst acc) → acc.length ≤ i → I i acc G → ∀ (K : CVK) (W : CH → Prop), (∀ y G, G d = some (.lst acc) → I (i + 1) (acc ++ [y]) (cup G d (.lst (acc ++ [y]))) → K y G) → (∀ G, G d = some (.lst acc) → I (i + 1) acc G → W G) →
      st G ∧ g x (cwipe τ vs) G fun τ2 G2 => tt τ2 G2 fun b G3 => if b = true then te τ2 G3 K else W G3)
    (fin : ∀ acc G, G d = some (.lst acc) → I xs.length acc G → st G ∧ R (.a (.ref d)) G) {G : CH} (h0 : G d = some (.lst [])) (h : I 0 [] G) : lcL g tt te st vs d τ R xs G := by
  have : ∀ (ys : List CV) (i : Nat), i + ys.length = xs.length → xs.drop i = ys → ∀ acc G, G d = some (.lst acc) → acc.length ≤ i → I i acc G → lcL g tt te st vs d τ R ys G := by
    intro ys
    induction ys with
    | nil =>
      intro i hi hd acc G hG ha hI
      have : i = xs.length := by simpa using hi
      subst this
      exact fin acc G hG hI
    | cons y ys ih =>
      intro i hi hd acc G hG ha hI
      have hy : xs[i]? = some y := by
        have := List.getElem?_drop (xs := xs) (i := i) (j := 0)
        rw [hd] at this
        simpa using this.symm
      have hd2 : xs.drop (i + 1) = ys := by rw [← List.drop_drop (i := 1) (j := i), hd]; rfl
      simp only [List.length_cons] at hi
      refine step i y hy acc G hG ha hI (fun z G4 => ∃ acc, G4 d = some (.lst acc) ∧ acc.length < sizeLine ∧ dnH (lcL g tt te st vs d τ R ys) (cup G4 d (.lst (acc ++ [z])))) (dnH (lcL g tt te st vs d τ R ys)) (fun z G1 hG1 hI1 => ?_) (fun G1 hG1 hI1 => ?_)
      · exact ⟨acc, hG1, by omega, dnH.here (ih (i + 1) (by omega) hd2 _ _ cup_same (by simp; omega) hI1)⟩
      · exact dnH.here (ih (i + 1) (by omega) hd2 _ _ hG1 (by omega) hI1)
  exact this xs 0 (by simp) (by simp) [] G h0 (Nat.le_refl _) h
theorem SubBut.rfl' {p : Addr} {G : CH} : SubBut p G G := fun _ _ _ h => h
theorem SubBut.trans {p : Addr} {G G1 G2 : CH} (a : SubBut p G G1) (b : SubBut p G1 G2) : SubBut p G G2 := fun q o n h => b q o n (a q o n h)
theorem SubBut.put {p a : Addr} {G G1 : CH} {o : CO} (s : SubBut p G G1) (h : G a = none) : SubBut p G (cup G1 a o) := fun q u n e => by
  have : q ≠ a := fun z => by subst z; rw [h] at e; cases e
  rw [cup_ne this]
  exact s q u n e
theorem SubBut.at_ {p : Addr} {G G1 : CH} {o : CO} (s : SubBut p G G1) : SubBut p G (cup G1 p o) := fun q u n e => by
  rw [cup_ne n]
  exact s q u n e
theorem Sub.but {p : Addr} {G G1 : CH} (s : Sub G G1) : SubBut p G G1 := fun q o _ h => s q o h
theorem Sub.none {G G' : CH} (s : Sub G G') {a : Addr} (h : G' a = none) : G a = none := by
  apply Classical.byContradiction
  intro z
  obtain ⟨o, ho⟩ := Option.ne_none_iff_exists'.mp z
  rw [s _ _ ho] at h
  cases h
/-- a draw list stands at p, its cells at q -/
def DrawQ (G : CH) (p q : Addr) (k : Nat) : Prop := ∃ D, DrawAt G p D q k
theorem DrawQ.le {G : CH} {p q : Addr} {k k' : Nat} (h : DrawQ G p q k) (hk : k ≤ k') : DrawQ G p q k' := by
  obtain ⟨D, h⟩ := h
  exact ⟨D, h.le hk⟩
theorem DrawQ.put {G : CH} {p q a : Addr} {k : Nat} {o : CO} (h : DrawQ G p q k) (hp : a ≠ p) (hq : a ≠ q) : DrawQ (cup G a o) p q k := by
  obtain ⟨D, h⟩ := h
  exact ⟨D, h.ok, by rw [cup_ne (Ne.symm hp)]; exact h.at_, by rw [cup_ne (Ne.symm hq)]; exact h.cells⟩
theorem DrawQ.ne {G : CH} {p q a : Addr} {k : Nat} (h : DrawQ G p q k) (ha : G a = none) : a ≠ p ∧ a ≠ q := by
  obtain ⟨D, h⟩ := h
  exact ⟨fun z => (by subst z; rw [h.at_] at ha; cases ha), fun z => (by subst z; rw [h.cells] at ha; cases ha)⟩
theorem DrawQ.new {G : CH} {p q a : Addr} {k : Nat} {o : CO} (h : DrawQ G p q k) (ha : G a = none) : DrawQ (cup G a o) p q k := h.put (h.ne ha).1 (h.ne ha).2
theorem sp_pick_a {H : CH} {p q : Addr} {k M : Nat} {R : CVK} (hM : M ≤ 1000) (hk : k ≤ 1000000) (h : DrawQ H p q k) (hR : ∀ (x : Nat) (G : CH), (M < 2 → x = 0) → (1 ≤ M → x < M) → SubBut p H G → DrawQ G p q (k + 1) → R (nC x) G) : sp__law_pick [.a (.ref p), nC M] H R := by
  obtain ⟨D, h⟩ := h
  exact sp_pick_i hM hk h fun x D' h1 h2 h3 => hR x _ h1 h2 (SubBut.at_ .rfl') ⟨D', h3⟩
theorem sp_change_a {H : CH} {p q : Addr} {k n : Nat} {R : CVK} (hn : n ≤ 8) (hk : k ≤ 900000) (h : DrawQ H p q k) (hR : ∀ (l : List Nat) (G : CH), Ch n 1 l → SubBut p H G → DrawQ G p q (k + 100) → R (rowC l) G) : sp__law_change [.a (.ref p), nC n] H R := by
  obtain ⟨D, h⟩ := h
  exact ⟨n, D, q, k, rfl, hn, hk, h, fun l D' h1 h2 => hR l _ h1 (SubBut.at_ .rfl') ⟨D', h2⟩⟩
theorem sp_led_a {H : CH} {p q : Addr} {k n lo : Nat} {R : CVK} (h1 : 1 ≤ n) (hn : n ≤ 8) (hlo : lo < n) (hk : k ≤ 900000) (h : DrawQ H p q k) (hR : ∀ (l : List Nat) (G : CH), Led n lo l → SubBut p H G → DrawQ G p q (k + 100) → R (rowC l) G) : sp__law_led_change [.a (.ref p), nC n, nC lo] H R := by
  obtain ⟨D, h⟩ := h
  exact ⟨n, lo, D, q, k, rfl, rfl, h1, hn, hlo, hk, h, fun l D' h1 h2 => hR l _ h1 (SubBut.at_ .rfl') ⟨D', h2⟩⟩
theorem nodup_sub {α : Type} [DecidableEq α] : ∀ {l m : List α}, l.Nodup → (∀ x ∈ l, x ∈ m) → l.length ≤ m.length
  | [], m, _, _ => Nat.zero_le _
  | x :: l, m, nd, h => by
    obtain ⟨n1, n2⟩ := List.nodup_cons.mp nd
    have hx : x ∈ m := h x List.mem_cons_self
    have := nodup_sub (m := m.erase x) n2 fun y hy => (List.mem_erase_of_ne (fun e => n1 (by rw [← e]; exact hy))).mpr (h y (List.mem_cons_of_mem _ hy))
    rw [List.length_erase_of_mem hx] at this
    have : 0 < m.length := List.length_pos_of_mem hx
    simp
    omega
theorem Ch.snoc {k p : Nat} {l : List Nat} (h : Ch k p l) : Ch (k + 1) p (l ++ [p + k]) := by
  induction h with
  | nil p => exact .keep (.nil _)
  | @keep k p l h ih => rw [show p + (k + 1) = p + 1 + k from by omega]; exact .keep ih
  | @swap k p l h ih => rw [show p + (k + 2) = p + 2 + k from by omega]; exact .swap ih
theorem Ch.snoc2 {k p : Nat} {l : List Nat} (h : Ch k p l) : Ch (k + 2) p l := by
  induction h with
  | nil p => exact .swap (.nil _)
  | keep h ih => exact .keep ih
  | swap h ih => exact .swap ih
theorem Ch.mirror {n k p : Nat} {l : List Nat} (h : Ch k p l) : ∀ q, q + p + k = n + 2 → Ch k q (l.map fun x => n + 1 - x).reverse := by
  induction h with
  | nil p => intro q _; exact .nil _
  | @keep k p l h ih =>
    intro q hq
    have := (ih q (by omega)).snoc
    rw [show q + k = n + 1 - p from by omega] at this
    simpa using this
  | @swap k p l h ih =>
    intro q hq
    exact (ih q (by omega)).snoc2
theorem Ch.lts {k p : Nat} {l : List Nat} (h : Ch k p l) : l.Pairwise (· < ·) := by
  induction h with
  | nil p => exact .nil
  | keep h ih => exact .cons (fun x hx => by have := h.mem x hx; omega) ih
  | swap h ih => exact ih
theorem cmGo_get {ch : List Nat} : ∀ (k p : Nat) (i : Nat), i < k → ∀ l, Ch k p l → (∀ x, p ≤ x → (x ∈ ch ↔ x ∈ l)) → p + i ∈ ch → (cmGo ch k p).getD i 0 = p + i := by
  intro k p i hi l h
  induction h generalizing i with
  | nil p => omega
  | @keep k p l h ih =>
    intro hm hc
    have hp : p ∈ ch := (hm p (Nat.le_refl _)).mpr List.mem_cons_self
    rw [cmGo_keep hp]
    cases i with
    | zero => rfl
    | succ i =>
      rw [List.getD_cons_succ]
      rw [ih i (by omega) (fun x hx => by rw [hm x (by omega)]; simp; omega) (by rw [show p + 1 + i = p + (i + 1) from by omega]; exact hc)]
      omega
  | @swap k p l h ih =>
    intro hm hc
    have hp : p ∉ ch := fun z => by
      have := h.mem p ((hm p (Nat.le_refl _)).mp z)
      omega
    rw [cmGo_swap hp]
    cases i with
    | zero => exact absurd hc hp
    | succ i =>
      cases i with
      | zero =>
        have := h.mem _ ((hm _ (by omega)).mp hc)
        omega
      | succ i =>
        rw [List.getD_cons_succ, List.getD_cons_succ]
        rw [ih i (by omega) (fun x hx => by rw [hm x (by omega)]) (by rw [show p + 2 + i = p + (i + 1 + 1) from by omega]; exact hc)]
        omega
theorem mv_kept {n x : Nat} {l : List Nat} (h : Ch n 1 l) (hx : x ∈ l) : (mvOf l n).getD (x - 1) 0 = x := by
  have r := h.mem x hx
  have := cmGo_get (ch := l) n 1 (x - 1) (by omega) l h (fun _ _ => Iff.rfl) (by rw [show 1 + (x - 1) = x from by omega]; exact hx)
  unfold mvOf
  rw [this]
  omega
theorem cmGo_led {ch : List Nat} {lo : Nat} : ∀ {k p : Nat} {l : List Nat}, ChL lo k p l → (∀ x, p ≤ x → (x ∈ ch ↔ x ∈ l)) → p ≤ lo ∧ lo + 1 < p + k ∧ (cmGo ch k p).getD (lo - p) 0 = lo + 1 ∧ (cmGo ch k p).getD (lo + 1 - p) 0 = lo := by
  intro k p l h
  induction h with
  | @here k l h =>
    intro hm
    have hp : lo ∉ ch := fun z => by
      have := h.mem lo ((hm lo (Nat.le_refl _)).mp z)
      omega
    rw [cmGo_swap hp]
    refine ⟨by omega, by omega, ?_, ?_⟩
    · rw [show lo - lo = 0 from by omega]; rfl
    · rw [show lo + 1 - lo = 1 from by omega]; rfl
  | @keep k p l h ih =>
    intro hm
    have hp : p ∈ ch := (hm p (Nat.le_refl _)).mpr List.mem_cons_self
    obtain ⟨a, b, c, d⟩ := ih fun x hx => by rw [hm x (by omega)]; simp; omega
    rw [cmGo_keep hp]
    refine ⟨by omega, by omega, ?_, ?_⟩
    · rw [show lo - p = (lo - (p + 1)) + 1 from by omega, List.getD_cons_succ, c]
    · rw [show lo + 1 - p = (lo + 1 - (p + 1)) + 1 from by omega, List.getD_cons_succ, d]
  | @swap k p l h ih =>
    intro hm
    obtain ⟨a, b, c, d⟩ := ih fun x hx => by rw [hm x (by omega)]
    have hp : p ∉ ch := fun z => by
      have := h.ch.mem p ((hm p (Nat.le_refl _)).mp z)
      omega
    rw [cmGo_swap hp]
    refine ⟨by omega, by omega, ?_, ?_⟩
    · rw [show lo - p = (lo - (p + 2)) + 1 + 1 from by omega, List.getD_cons_succ, List.getD_cons_succ, c]
    · rw [show lo + 1 - p = (lo + 1 - (p + 2)) + 1 + 1 from by omega, List.getD_cons_succ, List.getD_cons_succ, d]
theorem leadRows_snoc {n : Nat} {l : List Nat} : ∀ {ls : List (List Nat)} {r : List Nat}, (leadRows n r (ls ++ [l])).2 = timesR (leadRows n r ls).2 (mvOf l n)
  | [], r => rfl
  | x :: ls, r => by
    rw [List.cons_append]
    show (leadRows n (timesR r (mvOf x n)) (ls ++ [l])).2 = _
    rw [leadRows_snoc]
    rfl
theorem leadEnd_perm {n : Nat} : ∀ {ls : List (List Nat)} {r : List Nat}, (∀ l ∈ ls, Ch n 1 l) → Perm n r → Perm n (leadRows n r ls).2
  | [], r, _, h => h
  | x :: ls, r, hc, h => leadEnd_perm (ls := ls) (fun l hl => hc l (List.mem_cons_of_mem _ hl)) (times_perm h (mv_perm (hc x List.mem_cons_self)))
/-- the treble is at place i + 1 behind these changes -/
def TrebAt (n : Nat) (ls : List (List Nat)) (i : Nat) : Prop := (leadRows n (List.range' 1 n) ls).2.getD i 0 = 1
theorem TrebAt.nil {n : Nat} (h : 1 ≤ n) : TrebAt n [] 0 := by
  unfold TrebAt leadRows
  cases n with
  | zero => omega
  | succ n => rfl
theorem TrebAt.step {n i j : Nat} {ls : List (List Nat)} {l : List Nat} (h : TrebAt n ls i) (hl : Ch n 1 l) (hj : j < n) (e : (mvOf l n).getD j 0 = i + 1) : TrebAt n (ls ++ [l]) j := by
  unfold TrebAt at h ⊢
  rw [leadRows_snoc, times_get (by rw [(mv_perm hl).len]; exact hj), e]
  exact h
theorem TrebAt.up {n i : Nat} {ls : List (List Nat)} {l : List Nat} (h : TrebAt n ls i) (hl : Led n (i + 1) l) : TrebAt n (ls ++ [l]) (i + 1) := by
  unfold Led at hl
  rw [if_neg (by omega)] at hl
  obtain ⟨a, b, c, d⟩ := cmGo_led (ch := l) hl fun _ _ => Iff.rfl
  exact h.step hl.ch (by omega) (by unfold mvOf; rw [show i + 1 + 1 - 1 = i + 1 from by omega] at d; exact d)
theorem TrebAt.down {n i : Nat} {ls : List (List Nat)} {l : List Nat} (h : TrebAt n ls (i + 1)) (hl : Led n (i + 1) l) : TrebAt n (ls ++ [l]) i := by
  unfold Led at hl
  rw [if_neg (by omega)] at hl
  obtain ⟨a, b, c, d⟩ := cmGo_led (ch := l) hl fun _ _ => Iff.rfl
  exact h.step hl.ch (by omega) (by unfold mvOf; rw [show i + 1 - 1 = i from by omega] at c; exact c)
theorem TrebAt.stay {n i : Nat} {ls : List (List Nat)} {l : List Nat} (h : TrebAt n ls i) (hl : Ch n 1 l) (hm : i + 1 ∈ l) : TrebAt n (ls ++ [l]) i := by
  have r := hl.mem _ hm
  refine h.step hl (by omega) ?_
  have := mv_kept hl hm
  simpa using this
theorem Led.ch {n lo : Nat} {l : List Nat} (h : Led n lo l) : Ch n 1 l := by
  unfold Led at h
  split at h
  · obtain ⟨_, _, h⟩ := h; exact h
  · exact h.ch
theorem Led.one {n : Nat} {l : List Nat} (h : Led n 0 l) : 1 ∈ l := by
  unfold Led at h
  rw [if_pos rfl] at h
  obtain ⟨_, e, _⟩ := h
  rw [e]
  exact List.mem_cons_self
def listsN (n : Nat) : Nat → List (List Nat)
  | 0 => [[]]
  | k + 1 => (listsN n k).flatMap fun l => (List.range' 1 n).map fun x => x :: l
theorem listsN_mem {n : Nat} : ∀ {r : List Nat}, (∀ x ∈ r, 1 ≤ x ∧ x ≤ n) → r ∈ listsN n r.length
  | [], _ => List.mem_singleton.mpr rfl
  | x :: r, h => by
    have h1 := listsN_mem (r := r) fun y hy => h y (List.mem_cons_of_mem _ hy)
    have h2 := h x List.mem_cons_self
    rw [List.length_cons]
    unfold listsN
    exact List.mem_flatMap.mpr ⟨r, h1, List.mem_map.mpr ⟨x, by rw [List.mem_range'_1]; omega, rfl⟩⟩
def ndB : List Nat → Bool
  | [] => true
  | x :: l => !l.elem x && ndB l
theorem ndB_of : ∀ {l : List Nat}, l.Nodup → ndB l = true
  | [], _ => rfl
  | x :: l, h => by
    obtain ⟨h1, h2⟩ := List.nodup_cons.mp h
    unfold ndB
    rw [ndB_of h2]
    simp [h1]
def fewN (n : Nat) : List (List Nat) := (listsN n n).filter fun r => ndB r && (decide (n ≤ 4) || r.getD 0 0 == 1)
theorem fewN_len {n : Nat} (h3 : 3 ≤ n) (h5 : n ≤ 5) : (fewN n).length ≤ 24 := by
  have : n = 3 ∨ n = 4 ∨ n = 5 := by omega
  rcases this with rfl | rfl | rfl <;> decide +kernel
/-- a head -/
def Hd (n : Nat) (r : List Nat) : Prop := Perm n r ∧ (n ≤ 4 ∨ r.getD 0 0 = 1)
theorem Hd.mem {n : Nat} {r : List Nat} (h : Hd n r) : r ∈ fewN n := by
  obtain ⟨p, q⟩ := h
  unfold fewN
  refine List.mem_filter.mpr ⟨by have := listsN_mem p.rng; rwa [p.len] at this, ?_⟩
  rw [ndB_of p.nd]
  rcases q with q | q
  · simp [q]
  · rw [q]; simp
/-- a method with few heads -/
def Few (M : Mth) : Prop := M.n ≤ 5 ∧ (M.n ≤ 4 ∨ ∀ c, (M.lead c).isSome = true → (M.move c).getD 0 0 = 1)
theorem Hd.rounds {n : Nat} (h : 1 ≤ n) : Hd n (List.range' 1 n) := ⟨rounds_perm n, .inr (by
  cases n with
  | zero => omega
  | succ n => rfl)⟩
theorem Hd.step {M : Mth} (ok : MthOk M) (fw : Few M) {r : List Nat} {c : Nat} (h : Hd M.n r) (hc : (M.lead c).isSome = true) : Hd M.n (timesR r (M.move c)) := by
  refine ⟨times_perm h.1 (ok.move_perm c), ?_⟩
  rcases fw.2 with f | f
  · exact .inl f
  · rcases h.2 with g | g
    · exact .inl g
    · have hl := (ok.move_perm c).len
      have := ok.n3
      rw [times_get (by omega), f c hc]
      exact .inr g
def Out.all : Out → List Nat
  | .rnd c => c
  | .lop a b => a ++ b
theorem go_some {C : Con} {first : List Nat} {S : List (Nat × List Nat)} {P : Nat → List Nat → Prop} (cl : ∀ m r, P m r → P (C.step m r).2.1 (C.step m r).2.2) (ps : ∀ m r, P m r → (m, r) ∈ S) : ∀ (f : Nat) (met : List (Nat × List Nat)) (cal : List Nat) (m : Nat) (r : List Nat), met.Nodup → (∀ q ∈ met, q ∈ S) → P m r → S.length < met.length + f → cal.length + 1 = met.length →
    ∃ o, C.go first f met cal m r = some o ∧ o.all.length ≤ S.length
  | 0, met, cal, m, r, nd, hs, _, hl, _ => by
    have := nodup_sub nd hs
    omega
  | f + 1, met, cal, m, r, nd, hs, hm, hl, hc => by
    have hlen := nodup_sub nd hs
    unfold Con.go
    by_cases h1 : (C.step m r).2.2 = first
    · rw [if_pos h1]
      exact ⟨_, rfl, by simp [Out.all]; omega⟩
    · rw [if_neg h1]
      by_cases h2 : ((C.step m r).2.1, (C.step m r).2.2) ∈ met
      · rw [if_pos h2]
        exact ⟨_, rfl, by simp only [Out.all, List.take_append_drop]; simp; omega⟩
      · rw [if_neg h2]
        refine go_some cl ps f _ _ _ _ ?_ ?_ (cl m r hm) (by simp; omega) (by simp; omega)
        · rw [List.nodup_append]
          refine ⟨nd, by simp, fun a ha b hb e => ?_⟩
          rw [List.mem_singleton] at hb
          subst hb; subst e
          exact h2 ha
        · intro q hq
          rcases List.mem_append.mp hq with hq | hq
          · exact hs q hq
          · rw [List.mem_singleton] at hq
            subst hq
            exact ps _ _ (cl m r hm)
theorem pairs_len {α : Type} {l : List α} : ∀ k : Nat, ((List.range k).flatMap fun m => l.map fun h => (m, h)).length = k * l.length
  | 0 => by simp
  | k + 1 => by
    rw [List.range_succ, List.flatMap_append, List.length_append, pairs_len k, Nat.succ_mul]
    simp
theorem Con.ends {C : Con} (ok : ConOk C) (fw : Few C.M) : ∃ o : Out, C.go (List.range' 1 C.M.n) 97 [(0, List.range' 1 C.M.n)] [] 0 (List.range' 1 C.M.n) = some o ∧ o.all.length ≤ 96 := by
  have n3 := ok.m.n3
  have l4 := ok.t.l4
  have l1 := ok.t.l1
  have h24 := fewN_len n3 fw.1
  have hS : ((List.range C.t.length).flatMap fun m => (fewN C.M.n).map fun h => (m, h)).length ≤ 96 := by
    rw [pairs_len]
    have : C.t.length * (fewN C.M.n).length ≤ 4 * 24 := Nat.mul_le_mul l4 h24
    omega
  have ps : ∀ m r, (m < C.t.length ∧ Hd C.M.n r) → (m, r) ∈ ((List.range C.t.length).flatMap fun m => (fewN C.M.n).map fun h => (m, h)) := fun m r h =>
    List.mem_flatMap.mpr ⟨m, List.mem_range.mpr h.1, List.mem_map.mpr ⟨r, h.2.mem, rfl⟩⟩
  have p0 : 0 < C.t.length ∧ Hd C.M.n (List.range' 1 C.M.n) := ⟨by omega, .rounds (by omega)⟩
  obtain ⟨o, h1, h2⟩ := go_some (C := C) (first := List.range' 1 C.M.n) (P := fun m r => m < C.t.length ∧ Hd C.M.n r) (fun m r h => by
    obtain ⟨a, b, c⟩ := C.step_ok ok h.1 h.2.1
    exact ⟨a, h.2.step ok.m fw c⟩) ps 97 [(0, List.range' 1 C.M.n)] [] 0 (List.range' 1 C.M.n) (by simp) (fun q hq => by
    rw [List.mem_singleton] at hq
    subst hq
    exact ps _ _ p0) p0 (by rw [List.length_singleton]; omega) rfl
  exact ⟨o, h1, by omega⟩
theorem posIn_map {α β : Type} [DecidableEq α] [DecidableEq β] {f : α → β} {x : α} : ∀ {l : List α}, (∀ y ∈ l, f y = f x → y = x) → posIn (f x) (l.map f) = posIn x l
  | [], _ => rfl
  | y :: l, h => by
    rw [List.map_cons]
    unfold posIn
    by_cases e : y = x
    · rw [if_pos e, if_pos (show f y = f x by rw [e])]
    · rw [if_neg e, if_neg fun z => e (h y List.mem_cons_self z), posIn_map fun z hz => h z (List.mem_cons_of_mem _ hz)]
theorem pos_bell {n : Nat} {s h : List Nat} {b : Nat} (hs : Perm n s) (hh : Perm n h) (b1 : 1 ≤ b) (b2 : b ≤ n) : posIn b (timesR s h) = posIn (posIn b s + 1) h := by
  have hb := perm_mem hs b1 b2
  have e := posIn_get hb
  have hl := posIn_lt hb
  have e2 : s.getD (posIn b s) 0 = b := by
    rw [List.getD_eq_getElem?_getD, e]; rfl
  have : posIn ((fun p : Nat => s.getD (p - 1) 0) (posIn b s + 1)) (h.map fun p : Nat => s.getD (p - 1) 0) = posIn (posIn b s + 1) h := by
    refine posIn_map (f := fun p : Nat => s.getD (p - 1) 0) fun y hy ey => ?_
    obtain ⟨y1, y2⟩ := hh.rng y hy
    have ly : y - 1 < s.length := by rw [hs.len]; omega
    change s.getD (y - 1) 0 = s.getD (posIn b s + 1 - 1) 0 at ey
    rw [show posIn b s + 1 - 1 = posIn b s from by omega, getD_at ly, getD_at hl] at ey
    have := (List.getElem_inj hs.nd).mp ey
    omega
  change posIn (s.getD (posIn b s + 1 - 1) 0) _ = _ at this
  rw [show posIn b s + 1 - 1 = posIn b s from by omega, e2] at this
  exact this
/-- the conductor who sees the bell that s names so -/
def Con.as (C : Con) (s : List Nat) : Con := ⟨C.M, posIn C.bell s + 1, C.t⟩
theorem Con.as_ok {C : Con} (ok : ConOk C) {s : List Nat} (hs : Perm C.M.n s) : ConOk (C.as s) := ⟨ok.m, by show 1 ≤ posIn C.bell s + 1; omega, by
  have := posIn_lt (perm_mem hs ok.b1 ok.b2)
  rw [hs.len] at this
  show posIn C.bell s + 1 ≤ C.M.n
  omega, ok.t⟩
theorem step_as {C : Con} (ok : ConOk C) {s h : List Nat} {m : Nat} (hs : Perm C.M.n s) (hh : Perm C.M.n h) : C.step m (timesR s h) = (((C.as s).step m h).1, ((C.as s).step m h).2.1, timesR s ((C.as s).step m h).2.2) := by
  have e : C.cell m (timesR s h) = (C.as s).cell m h := by
    unfold Con.cell
    rw [pos_bell hs hh ok.b1 ok.b2]
    rfl
  unfold Con.step
  rw [e]
  have : (C.as s).M = C.M := rfl
  rw [this]
  refine Prod.ext rfl (Prod.ext rfl ?_)
  exact times_assoc ((ok.m.move_perm _).r100 hh)
theorem mem_map_inj {α β : Type} {f : α → β} {x : α} {l : List α} (h : ∀ y ∈ l, f y = f x → y = x) : f x ∈ l.map f ↔ x ∈ l := by
  rw [List.mem_map]
  exact ⟨fun ⟨y, hy, e⟩ => by rw [← h y hy e]; exact hy, fun hx => ⟨x, hx, rfl⟩⟩
theorem go_as {C : Con} (ok : ConOk C) {s : List Nat} (hs : Perm C.M.n s) : ∀ (f : Nat) (met : List (Nat × List Nat)) (cal : List Nat) (m : Nat) (h : List Nat), m < C.t.length → Perm C.M.n h → (∀ q ∈ met, Perm C.M.n q.2) →
    C.go s f (met.map fun q => (q.1, timesR s q.2)) cal m (timesR s h) = (C.as s).go (List.range' 1 C.M.n) f met cal m h
  | 0, met, cal, m, h, _, _, _ => rfl
  | f + 1, met, cal, m, h, hm, hh, hq => by
    unfold Con.go
    rw [step_as ok hs hh]
    have ok' := C.as_ok ok hs
    obtain ⟨s1, s2, s3⟩ := (C.as s).step_ok ok' hm hh
    generalize (C.as s).step m h = st at *
    obtain ⟨l, m2, r2⟩ := st
    change Perm C.M.n r2 at s2
    change m2 < C.t.length at s1
    show (if timesR s r2 = s then _ else if (m2, timesR s r2) ∈ _ then _ else _) = (if r2 = List.range' 1 C.M.n then _ else if (m2, r2) ∈ met then _ else _)
    have e1 : timesR s r2 = s ↔ r2 = List.range' 1 C.M.n := by
      constructor
      · intro e
        exact times_inj hs s2 (rounds_perm _) (by rw [e, times_to_rounds hs])
      · intro e
        rw [e, times_to_rounds hs]
    have inj : ∀ y ∈ met, (fun q : Nat × List Nat => (q.1, timesR s q.2)) y = (fun q : Nat × List Nat => (q.1, timesR s q.2)) (m2, r2) → y = (m2, r2) := by
      rintro ⟨a, b⟩ hy e
      simp only [Prod.mk.injEq] at e
      obtain ⟨e1, e2⟩ := e
      have e4 := times_inj hs (hq (a, b) hy) s2 e2
      exact Prod.ext e1 e4
    have e2 : (m2, timesR s r2) ∈ met.map (fun q => (q.1, timesR s q.2)) ↔ (m2, r2) ∈ met := mem_map_inj inj
    have e3 : posIn (m2, timesR s r2) (met.map fun q => (q.1, timesR s q.2)) = posIn (m2, r2) met := posIn_map inj
    by_cases h1 : r2 = List.range' 1 C.M.n
    · rw [if_pos h1, if_pos (e1.mpr h1)]
    · rw [if_neg h1, if_neg fun z => h1 (e1.mp z)]
      by_cases h2 : (m2, r2) ∈ met
      · rw [if_pos h2, if_pos (e2.mpr h2)]
        show some (Out.lop (List.take (posIn (m2, timesR s r2) _) _) (List.drop (posIn (m2, timesR s r2) _) _)) = _
        rw [e3]
      · rw [if_neg h2, if_neg fun z => h2 (e2.mp z)]
        have := go_as ok hs f (met ++ [(m2, r2)]) (cal ++ [l]) m2 r2 s1 s2 fun q hq' => by
          rcases List.mem_append.mp hq' with hq' | hq'
          · exact hq q hq'
          · rw [List.mem_singleton] at hq'
            subst hq'
            exact s2
        rw [List.map_append, List.map_cons, List.map_nil] at this
        exact this
theorem endFrom_snoc (M : Mth) (l : Nat) : ∀ (c h : List Nat), endFrom M h (c ++ [l]) = timesR (endFrom M h c) (M.move l)
  | [], h => rfl
  | x :: c, h => by
    rw [List.cons_append]
    show endFrom M (timesR h (M.move x)) (c ++ [l]) = _
    rw [endFrom_snoc]
    rfl
theorem endFrom_perm {M : Mth} (ok : MthOk M) : ∀ (c h : List Nat), Perm M.n h → Perm M.n (endFrom M h c)
  | [], h, p => p
  | x :: c, h, p => endFrom_perm ok c _ (times_perm p (ok.move_perm x))
theorem endFrom_as {M : Mth} (ok : MthOk M) {s : List Nat} : ∀ (c h : List Nat), Perm M.n h → endFrom M (timesR s h) c = timesR s (endFrom M h c)
  | [], h, p => rfl
  | x :: c, h, p => by
    show endFrom M (timesR (timesR s h) (M.move x)) c = timesR s (endFrom M (timesR h (M.move x)) c)
    rw [times_assoc ((ok.move_perm x).r100 p), endFrom_as ok c _ (times_perm p (ok.move_perm x))]
theorem rowsFrom_as {M : Mth} (ok : MthOk M) {s : List Nat} : ∀ (c h : List Nat), Perm M.n h → (∀ l ∈ c, (M.lead l).isSome = true) → rowsFrom M (timesR s h) c = (rowsFrom M h c).map (timesR s)
  | [], h, p, _ => rfl
  | x :: c, h, p, hc => by
    show (M.rows x).map (timesR (timesR s h)) ++ rowsFrom M (timesR (timesR s h) (M.move x)) c = ((M.rows x).map (timesR h) ++ rowsFrom M (timesR h (M.move x)) c).map (timesR s)
    obtain ⟨l, e⟩ := Option.isSome_iff_exists.mp (hc x List.mem_cons_self)
    rw [times_assoc ((ok.move_perm x).r100 p), rowsFrom_as ok c _ (times_perm p (ok.move_perm x)) fun y hy => hc y (List.mem_cons_of_mem _ hy), List.map_append, List.map_map]
    congr 1
    refine List.map_congr_left fun r hr => ?_
    exact times_assoc (((ok.rows_ok e).2 r hr).r100 p)
theorem rowsFrom_perm {M : Mth} (ok : MthOk M) : ∀ (c h : List Nat), Perm M.n h → (∀ l ∈ c, (M.lead l).isSome = true) → ∀ r ∈ rowsFrom M h c, Perm M.n r
  | [], h, p, _, r, hr => by cases hr
  | x :: c, h, p, hc, r, hr => by
    obtain ⟨l, e⟩ := Option.isSome_iff_exists.mp (hc x List.mem_cons_self)
    rcases List.mem_append.mp (show r ∈ (M.rows x).map (timesR h) ++ rowsFrom M (timesR h (M.move x)) c from hr) with hr | hr
    · obtain ⟨y, hy, e2⟩ := List.mem_map.mp hr
      rw [← e2]
      exact times_perm p ((ok.rows_ok e).2 y hy)
    · exact rowsFrom_perm ok c _ (times_perm p (ok.move_perm x)) (fun y hy => hc y (List.mem_cons_of_mem _ hy)) r hr
theorem spots_map {α β : Type} [DecidableEq α] [DecidableEq β] {f : α → β} {P : α → Prop} (inj : ∀ x y, P x → P y → f x = f y → x = y) : ∀ (rs prev : List α), (∀ r ∈ rs, P r) → (∀ r ∈ prev, P r) → spotsGo (prev.map f) (rs.map f) = spotsGo prev rs
  | [], prev, _, _ => rfl
  | r :: rs, prev, hr, hp => by
    rw [List.map_cons]
    unfold spotsGo
    have pr := hr r List.mem_cons_self
    have i1 : ∀ y ∈ prev, f y = f r → y = r := fun y hy e => inj y r (hp y hy) pr e
    by_cases h : r ∈ prev
    · rw [if_pos h, if_pos ((mem_map_inj i1).mpr h), posIn_map i1, List.length_map]
    · rw [if_neg h, if_neg fun z => h ((mem_map_inj i1).mp z)]
      have := spots_map inj rs (prev ++ [r]) (fun y hy => hr y (List.mem_cons_of_mem _ hy)) fun y hy => by
        rcases List.mem_append.mp hy with hy | hy
        · exact hp y hy
        · rw [List.mem_singleton] at hy
          subst hy
          exact pr
      rw [List.map_append, List.map_cons, List.map_nil] at this
      exact this
theorem spots_as {M : Mth} (ok : MthOk M) {s c : List Nat} (hs : Perm M.n s) (hc : ∀ l ∈ c, (M.lead l).isSome = true) : spotsGo [] (rowsFrom M s c) = spotsGo [] (rowsFrom M (List.range' 1 M.n) c) := by
  have e : rowsFrom M s c = (rowsFrom M (List.range' 1 M.n) c).map (timesR s) := by
    rw [← rowsFrom_as ok c _ (rounds_perm _) hc, times_to_rounds hs]
  rw [e]
  exact spots_map (P := Perm M.n) (fun x y px py e => times_inj hs px py e) _ [] (fun r hr => rowsFrom_perm ok c _ (rounds_perm _) hc r hr) (fun r hr => by cases hr)
def Out.isR : Out → Bool
  | .rnd _ => true
  | .lop _ _ => false
theorem go_tells {C : Con} (ok : ConOk C) {first : List Nat} : ∀ (f : Nat) (met : List (Nat × List Nat)) (cal : List Nat) (m : Nat) (r : List Nat) (o : Out), C.go first f met cal m r = some o → m < C.t.length → Perm C.M.n r → endFrom C.M first cal = r → (∀ l ∈ cal, (C.M.lead l).isSome = true) →
    o.all ≠ [] ∧ (∀ l ∈ o.all, (C.M.lead l).isSome = true) ∧ (o.isR = true ↔ endFrom C.M first o.all = first)
  | 0, _, _, _, _, _, h, _, _, _, _ => by cases h
  | f + 1, met, cal, m, r, o, h, hm, pr, he, hl => by
    unfold Con.go at h
    obtain ⟨s1, s2, s3⟩ := C.step_ok ok hm pr
    have hl2 : ∀ l ∈ cal ++ [(C.step m r).1], (C.M.lead l).isSome = true := fun l hq => by
      rcases List.mem_append.mp hq with hq | hq
      · exact hl l hq
      · rw [List.mem_singleton] at hq
        subst hq
        exact s3
    have he2 : endFrom C.M first (cal ++ [(C.step m r).1]) = (C.step m r).2.2 := by rw [endFrom_snoc, he]; rfl
    by_cases h1 : (C.step m r).2.2 = first
    · rw [if_pos h1] at h
      cases h
      exact ⟨by simp [Out.all], hl2, by simp only [Out.isR, Out.all]; rw [he2, h1]; simp⟩
    · rw [if_neg h1] at h
      by_cases h2 : ((C.step m r).2.1, (C.step m r).2.2) ∈ met
      · rw [if_pos h2] at h
        cases h
        refine ⟨?_, ?_, ?_⟩
        · simp only [Out.all, List.take_append_drop]; simp
        · simp only [Out.all, List.take_append_drop]; exact hl2
        · simp only [Out.isR, Out.all, List.take_append_drop]
          rw [he2]
          simp [h1]
      · rw [if_neg h2] at h
        exact go_tells ok f _ _ _ _ o h s1 s2 he2 hl2
theorem entsRow_not {m m' : Nat} (h : m ≠ m') : ∀ (i : Nat) (row : List (Nat × Nat)), (entsRow m i row).filter (fun e => e.st == m') = []
  | _, [] => rfl
  | i, q :: row => by
    unfold entsRow
    rw [List.filter_cons_of_neg (by simpa using h), entsRow_not h]
theorem entsRow_all {m : Nat} : ∀ (i : Nat) (row : List (Nat × Nat)), (entsRow m i row).filter (fun e => e.st == m) = entsRow m i row
  | _, [] => rfl
  | i, q :: row => by
    unfold entsRow
    rw [List.filter_cons_of_pos (by simp), entsRow_all]
theorem entsTb_low {m : Nat} : ∀ (k : Nat) (t : Tb), m < k → (entsTb k t).filter (fun e => e.st == m) = []
  | _, [], _ => rfl
  | k, r :: t, h => by
    unfold entsTb
    rw [List.filter_append, entsRow_not (by omega), entsTb_low (k + 1) t (by omega)]
    rfl
theorem entsTb_at {m : Nat} {row : List (Nat × Nat)} : ∀ (k : Nat) (t : Tb), k ≤ m → t[m - k]? = some row → (entsTb k t).filter (fun e => e.st == m) = entsRow m 0 row
  | k, [], _, h => by simp at h
  | k, r :: t, hk, h => by
    unfold entsTb
    rw [List.filter_append]
    by_cases e : k = m
    · subst e
      rw [Nat.sub_self] at h
      simp at h
      subst h
      rw [entsRow_all, entsTb_low _ _ (by omega), List.append_nil]
    · rw [entsRow_not (by omega), entsTb_at (k + 1) t (by omega) (by
        rw [show m - k = (m - (k + 1)) + 1 from by omega] at h
        simpa using h)]
      rfl
theorem entsRow_low {m j : Nat} : ∀ (i : Nat) (row : List (Nat × Nat)), j < i → (entsRow m i row).filter (fun e => decide (j + 1 = e.pos)) = []
  | _, [], _ => rfl
  | i, q :: row, h => by
    unfold entsRow
    rw [List.filter_cons_of_neg (by simp; omega), entsRow_low (i + 1) row (by omega)]
theorem entsRow_at {m j : Nat} {q : Nat × Nat} : ∀ (i : Nat) (row : List (Nat × Nat)), i ≤ j → row[j - i]? = some q → (entsRow m i row).filter (fun e => decide (j + 1 = e.pos)) = [⟨m, j + 1, q.1, q.2⟩]
  | i, [], _, h => by simp at h
  | i, x :: row, hi, h => by
    unfold entsRow
    by_cases e : i = j
    · subst e
      rw [Nat.sub_self] at h
      simp at h
      subst h
      rw [List.filter_cons_of_pos (by simp), entsRow_low _ _ (by omega)]
    · rw [List.filter_cons_of_neg (by simp; omega), entsRow_at (i + 1) row (by omega) (by
        rw [show j - i = (j - (i + 1)) + 1 from by omega] at h
        simpa using h)]
theorem Con.oneWay {C : Con} (ok : ConOk C) {m : Nat} {r : List Nat} (hm : m < C.t.length) (pr : Perm C.M.n r) : OneWay C.bell (entsTb 0 C.t) m r ⟨m, posIn C.bell r + 1, (C.step m r).1, (C.step m r).2.1⟩ := by
  obtain ⟨row, e1, e2, _⟩ := C.cell_ok ok hm pr
  unfold OneWay
  rw [entsTb_at 0 C.t (Nat.zero_le _) e1, entsRow_at 0 row (Nat.zero_le _) e2]
  rfl
theorem go_bears {C : Con} (ok : ConOk C) : ∀ (f : Nat) (met : List (Nat × List Nat)) (cal : List Nat) (m : Nat) (r : List Nat) (o : Out), C.go (List.range' 1 C.M.n) f met cal m r = some o → m < C.t.length → Perm C.M.n r → ∃ rest, rest ≠ [] ∧ o.all = cal ++ rest ∧ BearsOk C.M C.bell (entsTb 0 C.t) m r rest
  | 0, _, _, _, _, _, h, _, _ => by cases h
  | f + 1, met, cal, m, r, o, h, hm, pr => by
    unfold Con.go at h
    obtain ⟨s1, s2, s3⟩ := C.step_ok ok hm pr
    have ow := C.oneWay ok hm pr
    by_cases h1 : (C.step m r).2.2 = List.range' 1 C.M.n
    · rw [if_pos h1] at h
      cases h
      exact ⟨[(C.step m r).1], by simp, rfl, _, ow, rfl, .inl rfl⟩
    · rw [if_neg h1] at h
      by_cases h2 : ((C.step m r).2.1, (C.step m r).2.2) ∈ met
      · rw [if_pos h2] at h
        cases h
        exact ⟨[(C.step m r).1], by simp, by simp only [Out.all, List.take_append_drop], _, ow, rfl, .inl rfl⟩
      · rw [if_neg h2] at h
        obtain ⟨rest, n0, e, b⟩ := go_bears ok f _ _ _ _ o h s1 s2
        refine ⟨(C.step m r).1 :: rest, by simp, by rw [e, List.append_assoc]; rfl, _, ow, rfl, .inr ⟨h1, b⟩⟩
def worldC (M : Mth) : CV := .tup [nC M.n, rowsC M.ls, callsC M.cs]
def sp__law_row : CSp := fun cs G R => match cs with
  | [.a (.ref p), .a (.int i)] => ∃ (n q k : Nat), i = n ∧ n ≤ 8 ∧ k ≤ 900000 ∧ DrawQ G p q k ∧ ∀ (r : List Nat) (G' : CH), Perm n r → SubBut p G G' → DrawQ G' p q (k + 100) → R (rowC r) G'
  | _ => False
def sp__law_letter : CSp := fun cs G R => match cs with
  | [.a (.ref p), .a (.str z)] => ∃ (us : List Nat) (q k : Nat), z = txt us ∧ us.length ≤ 10 ∧ k ≤ 900000 ∧ DrawQ G p q k ∧ ∀ (c : Nat) (G' : CH), Lt c → c ≠ 112 → c ∉ us → SubBut p G G' → DrawQ G' p q (k + 1) → R (letC c) G'
  | _ => False
def sp__law_kept_last : CSp := fun cs G R => match cs with
  | [.a (.ref p), .a (.int i)] => ∃ (n q k : Nat), i = n ∧ 1 ≤ n ∧ n ≤ 8 ∧ k ≤ 900000 ∧ DrawQ G p q k ∧ ∀ (l : List Nat) (G' : CH), Ch n 1 l → n ∈ l → SubBut p G G' → DrawQ G' p q (k + 100) → R (rowC l) G'
  | _ => False
/-- a plain lead that leads the treble to the last place and back -/
structure Hunt (n : Nat) (ls : List (List Nat)) : Prop where
  len : ls.length = 2 * n
  ch : ∀ l ∈ ls, Ch n 1 l
  tr : TrebAt n ls.dropLast 0
  one : ∃ l, ls = ls.dropLast ++ [l] ∧ 1 ∈ l
def sp__law_hunting : CSp := fun cs G R => match cs with
  | [.a (.ref p), .a (.int i)] => ∃ (n q k : Nat), i = n ∧ 1 ≤ n ∧ n ≤ 8 ∧ k ≤ 800000 ∧ DrawQ G p q k ∧ ∀ (ls : List (List Nat)) (a : Addr) (G' : CH), Hunt n ls → a ≠ p → G' a = some (.lst (ls.map rowC)) → SubBut p G G' → DrawQ G' p q (k + 2000) → R (.a (.ref a)) G'
  | _ => False
def sp__law_world : CSp := fun cs G R => match cs with
  | [.a (.ref p), .a (.int i)] => ∃ (lst q k : Nat), i = lst ∧ lst ≤ 1 ∧ k ≤ 700000 ∧ DrawQ G p q k ∧ ∀ (M : Mth) (G' : CH), MthOk M → Few M → lst ≤ M.cs.length → M.cs.length ≤ 3 → SubBut p G G' → DrawQ G' p q (k + 10000) → R (worldC M) G'
  | _ => False
/-- the letters of a method, in some order -/
def LtsOf (M : Mth) (cs : List Nat) : Prop := cs.Perm (112 :: M.cs.map (·.letter))
def sp__law_letters : CSp := fun cs G R => match cs with
  | [w] => ∃ M : Mth, w = worldC M ∧ MthOk M ∧ ∀ cs, LtsOf M cs → R (.a (.str (txt cs))) G
  | _ => False
def sp__law_lead_of : CSp := fun cs G R => match cs with
  | [w, .a (.str z)] => ∃ (M : Mth) (c : Nat), w = worldC M ∧ z = ltS c ∧ MthOk M ∧ (M.lead c).isSome = true ∧ R (rowsC ((M.lead c).getD [])) G
  | _ => False
def sp__law_rounds : CSp := fun cs G R => match cs with
  | [.a (.int i)] => ∃ n : Nat, i = n ∧ n ≤ 100 ∧ R (rowC (List.range' 1 n)) G
  | _ => False
def sp__law_moved : CSp := fun cs G R => match cs with
  | [x, y] => ∃ r m : List Nat, x = rowC r ∧ y = rowC m ∧ m.length ≤ 100 ∧ (∀ p ∈ m, 1 ≤ p ∧ p ≤ r.length) ∧ R (rowC (timesR r m)) G
  | _ => False
def sp__law_change_move : CSp := fun cs G R => match cs with
  | [x, .a (.int i)] => ∃ (l : List Nat) (n : Nat), x = rowC l ∧ i = n ∧ n ≤ 100 ∧ Ch n 1 l ∧ R (rowC (mvOf l n)) G
  | _ => False
def sp__law_body_of : CSp := fun cs G R => match cs with
  | [w, .a (.str z)] => ∃ (M : Mth) (c : Nat), w = worldC M ∧ z = ltS c ∧ MthOk M ∧ (M.lead c).isSome = true ∧ ∀ (a : Addr) (G' : CH), Sub G G' → G' a = some (.lst ((M.rows c ++ [M.move c]).map rowC)) → R (.a (.ref a)) G'
  | _ => False
def MovesAt (G : CH) (d : Addr) (M : Mth) : Prop := ∃ k, G d = some (.dic false k) ∧ ∀ c, (M.lead c).isSome = true → dval k (.text (ltS c)) = some (rowC (M.move c))
def sp__law_moves : CSp := fun cs G R => match cs with
  | [w] => ∃ M : Mth, w = worldC M ∧ MthOk M ∧ ∀ (d : Addr) (G' : CH), Sub G G' → MovesAt G' d M → R (.a (.ref d)) G'
  | _ => False
mutual
/-- y is the data k with lists alone, d deep, at such places -/
inductive LsAt (N : Addr → Prop) (G : CH) : Nat → CV → NestedKey → Prop
  | num {d : Nat} (i : Int) : LsAt N G d (.a (.int i)) (.num i)
  | text {d : Nat} (z : Str) : LsAt N G d (.a (.str z)) (.text z)
  | lst {d : Nat} {p : Addr} {xs : List CV} {ks : List NestedKey} : N p → G p = some (.lst xs) → LsAts N G d xs ks → LsAt N G (d + 1) (.a (.ref p)) (.tup ks)
inductive LsAts (N : Addr → Prop) (G : CH) : Nat → List CV → List NestedKey → Prop
  | nil {d : Nat} : LsAts N G d [] []
  | cons {d : Nat} {x : CV} {xs : List CV} {k : NestedKey} {ks : List NestedKey} : LsAt N G d x k → LsAts N G d xs ks → LsAts N G d (x :: xs) (k :: ks)
end
mutual
theorem LsAt.mono {N N' : Addr → Prop} {G G' : CH} (n : ∀ p, N p → N' p) (s : ∀ p o, N p → G p = some o → G' p = some o) : ∀ {d : Nat} {x : CV} {k : NestedKey}, LsAt N G d x k → LsAt N' G' d x k
  | _, _, _, .num i => .num i
  | _, _, _, .text z => .text z
  | _, _, _, .lst a e h => .lst (n _ a) (s _ _ a e) (LsAts.mono n s h)
theorem LsAts.mono {N N' : Addr → Prop} {G G' : CH} (n : ∀ p, N p → N' p) (s : ∀ p o, N p → G p = some o → G' p = some o) : ∀ {d : Nat} {xs : List CV} {ks : List NestedKey}, LsAts N G d xs ks → LsAts N' G' d xs ks
  | _, _, _, .nil => .nil
  | _, _, _, .cons h t => .cons (LsAt.mono n s h) (LsAts.mono n s t)
end
mutual
theorem LsAt.deep {N : Addr → Prop} {G : CH} : ∀ {d : Nat} {x : CV} {k : NestedKey}, LsAt N G d x k → DeepAt G d x k
  | _, _, _, .num i => .num i
  | _, _, _, .text z => .text z
  | _, _, _, .lst _ e h => .lst e (LsAts.deep h)
theorem LsAts.deep {N : Addr → Prop} {G : CH} : ∀ {d : Nat} {xs : List CV} {ks : List NestedKey}, LsAts N G d xs ks → DeepAts G d xs ks
  | _, _, _, .nil => .nil
  | _, _, _, .cons h t => .cons (LsAt.deep h) (LsAts.deep t)
end
def sp__law_listedN (n : Nat) : CSp := fun cs G R => match cs with
  | [x] => ∃ (k : NestedKey) (d : Nat), d ≤ n ∧ DeepAt G d x k ∧ sp_deepN.bigK k = false ∧ ∀ (y : CV) (G' : CH), Sub G G' → LsAt (fun p => G p = none) G' d y k → R y G'
  | _ => False
def sp__law_listed : CSp := sp__law_listedN 4
def sp__law_table : CSp := fun cs G R => match cs with
  | [.a (.ref p), .a (.int i), .a (.str z)] => ∃ (M : Mth) (cs : List Nat) (q k : Nat), i = M.n ∧ z = txt cs ∧ MthOk M ∧ LtsOf M cs ∧ k ≤ 800000 ∧ DrawQ G p q k ∧ ∀ (t : Tb) (G' : CH), TbOk M t → SubBut p G G' → DrawQ G' p q (k + 1000) → R (tbC t) G'
  | _ => False
def sp__law_walk : CSp := fun cs G R => match cs with
  | [.a (.ref d), x, .a (.int b), y] => ∃ (C : Con) (first : List Nat) (f : Nat) (o : Out), x = tbC C.t ∧ b = C.bell ∧ y = rowC first ∧ ConOk C ∧ Perm C.M.n first ∧ f ≤ 400 ∧ C.go first f [(0, first)] [] 0 first = some o ∧ MovesAt G d C.M ∧ R (outC o) G
  | _ => False
def T__law_row_L1 : CTS := (cDrop (cBM ["list"] kAppend (cVar 3) (cCons (cBM ["list"] kPop (cVar 2) (cCons (cCall sp__law_pick [] (cCons (cVar 0) (cCons (cCB (cLen []) (cCons (cVar 2) cNil)) cNil))) cNil)) cNil)))
/-- _law_row -/
def T__law_row : CTS := (cSeq (cSetN 2 (cLc (ciRg2 (cC (.int 1)) (cOp cAdd (cVar 1) (cC (.int 1)))) (cgName 5) cYes (cVar 5) [5]))
    (cSeq (cSetN 3 (cLst cNil))
    (cSeq (cFor (ciRg1 (cVar 1)) (cgName 4) T__law_row_L1)
    (cRet (cCB cTuple (cCons (cVar 3) cNil))))))
/-- _law_letter -/
def T__law_letter : CTS := (cSeq (cSetN 2 (cLc (ciVal (cC (.str "abcdefghijklmnoqrstuvwxyz"))) (cgName 3) (cTest (cOp (InT [] true) (cVar 3) (cVar 1))) (cVar 3) [3]))
    (cRet (cOp (cIx []) (cVar 2) (cCall sp__law_pick [] (cCons (cVar 0) (cCons (cCB (cLen []) (cCons (cVar 2) cNil)) cNil))))))
/-- _law_kept_last -/
def T__law_kept_last : CTS := (cSeq (cSetN 2 (cLc (ciVal (cCall sp__law_led_change [] (cCons (cVar 0) (cCons (cVar 1) (cCons (cC (.int 0)) cNil))))) (cgName 3) cYes (cOp cSub (cOp cAdd (cVar 1) (cC (.int 1))) (cVar 3)) [3]))
    (cRet (cCB cTuple (cCons (cCB cSorted (cCons (cVar 2) cNil)) cNil))))
def T__law_hunting_L1 : CTS := (cDrop (cBM ["list"] kAppend (cVar 2) (cCons (cCall sp__law_led_change [] (cCons (cVar 0) (cCons (cVar 1) (cCons (cVar 3) cNil)))) cNil)))
/-- _law_hunting -/
def T__law_hunting : CTS := (cSeq (cSetN 2 (cLc (ciRg2 (cC (.int 1)) (cVar 1)) (cgName 3) cYes (cCall sp__law_led_change [] (cCons (cVar 0) (cCons (cVar 1) (cCons (cVar 3) cNil)))) [3]))
    (cSeq (cDrop (cBM ["list"] kAppend (cVar 2) (cCons (cCall sp__law_kept_last [] (cCons (cVar 0) (cCons (cVar 1) cNil))) cNil)))
    (cSeq (cFor (ciRg3 (cOp cSub (cVar 1) (cC (.int 1))) (cC (.int 0)) (cUn cNeg (cC (.int 1)))) (cgName 3) T__law_hunting_L1)
    (cSeq (cDrop (cBM ["list"] kAppend (cVar 2) (cCons (cCall sp__law_led_change [] (cCons (cVar 0) (cCons (cVar 1) (cCons (cC (.int 0)) cNil)))) cNil)))
    (cRet (cVar 2))))))
def T__law_world_L1 : CTS := (cSeq (cSetN 9 (cCall sp__law_letter [] (cCons (cVar 0) (cCons (cVar 6) cNil))))
    (cSeq (cSetN 6 (cOp cAdd (cVar 6) (cVar 9)))
    (cIfS (cTruth (cVar 4)) (cDrop (cBM ["list"] kAppend (cVar 5) (cCons (cTup (cCons (cVar 9) (cCons (cOp cSub (cCB (cLen []) (cCons (cVar 8) cNil)) (cC (.int 1))) (cCons (cTup (cCons (cCall sp__law_led_change [] (cCons (cVar 0) (cCons (cVar 3) (cCons (cC (.int 0)) cNil)))) cNil)) cNil)))) cNil))) (cSeq (cSetN 10 (cOp cAdd (cC (.int 1)) (cCall sp__law_pick [] (cCons (cVar 0) (cCons (cCB (cLen []) (cCons (cVar 8) cNil)) cNil)))))
    (cSeq (cSetN 11 (cCall sp__law_pick [] (cCons (cVar 0) (cCons (cOp cAdd (cOp cSub (cCB (cLen []) (cCons (cVar 8) cNil)) (cVar 10)) (cC (.int 1))) cNil))))
    (cDrop (cBM ["list"] kAppend (cVar 5) (cCons (cTup (cCons (cVar 9) (cCons (cVar 11) (cCons (cCB cTuple (cCons (cLc (ciRg1 (cVar 10)) (cgName 12) cYes (cCall sp__law_change [] (cCons (cVar 0) (cCons (cVar 3) cNil))) [12]) cNil)) cNil)))) cNil))))))))
/-- _law_world -/
def T__law_world : CTS := (cSeq (cSetN 2 (cCall sp__law_pick [] (cCons (cVar 0) (cCons (cC (.int 6)) cNil))))
    (cSeq (cSetN 3 (cOp (cIx []) (cLst (cCons (cC (.int 4)) (cCons (cC (.int 4)) (cCons (cC (.int 3)) (cCons (cC (.int 4)) (cCons (cC (.int 5)) (cCons (cC (.int 4)) cNil))))))) (cVar 2)))
    (cSeq (cSetN 4 (cOp (InT [] false) (cVar 2) (cTup (cCons (cC (.int 0)) (cCons (cC (.int 4)) (cCons (cC (.int 5)) cNil))))))
    (cSeq (cIfS (cTruth (cVar 4)) (cSetN 8 (cCall sp__law_hunting [] (cCons (cVar 0) (cCons (cVar 3) cNil)))) (cSetN 8 (cLc (ciRg1 (cOp cAdd (cC (.int 1)) (cCall sp__law_pick [] (cCons (cVar 0) (cCons (cC (.int 5)) cNil))))) (cgName 7) cYes (cCall sp__law_change [] (cCons (cVar 0) (cCons (cVar 3) cNil))) [7])))
    (cSeq (cSetN 5 (cLst cNil))
    (cSeq (cSetN 6 (cC (.str "")))
    (cSeq (cFor (ciRg1 (cCB cMax (cCons (cVar 1) (cCons (cOp (cIx []) (cLst (cCons (cC (.int 1)) (cCons (cC (.int 2)) (cCons (cC (.int 1)) (cCons (cC (.int 0)) (cCons (cC (.int 2)) (cCons (cC (.int 3)) cNil))))))) (cCall sp__law_pick [] (cCons (cVar 0) (cCons (cC (.int 6)) cNil)))) cNil)))) (cgName 7) T__law_world_L1)
    (cRet (cTup (cCons (cVar 3) (cCons (cCB cTuple (cCons (cVar 8) cNil)) (cCons (cCB cTuple (cCons (cVar 5) cNil)) cNil))))))))))))
/-- _law_letters -/
def T__law_letters : CTS := (cRet (cBM ["str"] kJoin (cC (.str "")) (cCons (cCB cSorted (cCons (cOp cAdd (cLst (cCons (cC (.str "p")) cNil)) (cLc (ciVal (cOp (cIx []) (cVar 0) (cC (.int 2)))) (cgName 1) cYes (cOp (cIx []) (cVar 1) (cC (.int 0))) [1])) cNil)) cNil)))
def T__law_lead_of_L1 : CTS := (cIfS (cTest (cOp cEq (cOp (cIx []) (cVar 3) (cC (.int 0))) (cVar 1))) (cSetN 2 (cOp cAdd (cOp cAdd (cSlice cSl (cVar 2) cNoPart (cPart (cOp (cIx []) (cVar 3) (cC (.int 1))))) (cCB cList (cCons (cOp (cIx []) (cVar 3) (cC (.int 2))) cNil))) (cSlice cSl (cVar 2) (cPart (cOp cAdd (cOp (cIx []) (cVar 3) (cC (.int 1))) (cCB (cLen []) (cCons (cOp (cIx []) (cVar 3) (cC (.int 2))) cNil)))) cNoPart))) cNext)
/-- _law_lead_of -/
def T__law_lead_of : CTS := (cSeq (cSetN 2 (cCB cList (cCons (cOp (cIx []) (cVar 0) (cC (.int 1))) cNil)))
    (cSeq (cFor (ciVal (cOp (cIx []) (cVar 0) (cC (.int 2)))) (cgName 3) T__law_lead_of_L1)
    (cRet (cCB cTuple (cCons (cVar 2) cNil)))))
/-- _law_rounds -/
def T__law_rounds : CTS := (cRet (cTupRg (cRg2 (cC (.int 1)) (cOp cAdd (cVar 0) (cC (.int 1))))))
/-- _law_moved -/
def T__law_moved : CTS := (cRet (cCB cTuple (cCons (cLc (ciVal (cVar 1)) (cgName 2) cYes (cOp (cIx []) (cVar 0) (cOp cSub (cVar 2) (cC (.int 1)))) [2]) cNil)))
def T__law_change_move_L1 : CTS := (cSeq (cIfS (cAnd (cTest (cOp cLt (cVar 3) (cVar 1))) (cTest (cOp (InT [] true) (cVar 3) (cVar 0)))) (cSeq (cAsg (cOp cAdd (cVar 3) (cC (.int 1))) (cgSub (cVar 2) (cOp cSub (cVar 3) (cC (.int 1))) cSet))
    (cSeq (cAsg (cVar 3) (cgSub (cVar 2) (cVar 3) cSet))
    (cSetN 3 (cOp cAdd (cVar 3) (cC (.int 1)))))) cNext)
    (cSetN 3 (cOp cAdd (cVar 3) (cC (.int 1)))))
/-- _law_change_move -/
def T__law_change_move : CTS := (cSeq (cSetN 2 (cLc (ciRg2 (cC (.int 1)) (cOp cAdd (cVar 1) (cC (.int 1)))) (cgName 3) cYes (cVar 3) [3]))
    (cSeq (cSetN 3 (cC (.int 1)))
    (cSeq (cFor (ciRg1 (cVar 1)) (cgName 4) T__law_change_move_L1)
    (cRet (cCB cTuple (cCons (cVar 2) cNil))))))
def T__law_body_of_L1 : CTS := (cSeq (cSetN 2 (cCall sp__law_moved [] (cCons (cVar 2) (cCons (cCall sp__law_change_move [] (cCons (cVar 4) (cCons (cOp (cIx []) (cVar 0) (cC (.int 0))) cNil))) cNil))))
    (cDrop (cBM ["list"] kAppend (cVar 3) (cCons (cVar 2) cNil))))
/-- _law_body_of -/
def T__law_body_of : CTS := (cSeq (cSetN 2 (cCall sp__law_rounds [] (cCons (cOp (cIx []) (cVar 0) (cC (.int 0))) cNil)))
    (cSeq (cSetN 3 (cLst (cCons (cVar 2) cNil)))
    (cSeq (cFor (ciVal (cCall sp__law_lead_of [] (cCons (cVar 0) (cCons (cVar 1) cNil)))) (cgName 4) T__law_body_of_L1)
    (cRet (cVar 3)))))
def T__law_moves_L1 : CTS := (cAsg (cOp (cIx []) (cCall sp__law_body_of [] (cCons (cVar 0) (cCons (cVar 2) cNil))) (cUn cNeg (cC (.int 1)))) (cgSub (cVar 1) (cVar 2) cSet))
/-- _law_moves -/
def T__law_moves : CTS := (cSeq (cSetN 1 (cNewD false))
    (cSeq (cFor (ciVal (cCall sp__law_letters [] (cCons (cVar 0) cNil))) (cgName 2) T__law_moves_L1)
    (cRet (cVar 1))))
/-- _law_listed -/
def T__law_listed (rec : CSp) : CTS := (cSeq (cIfS (cOr (cTruth (cIsi ["tuple"] (cVar 0))) (cTruth (cIsi ["list"] (cVar 0)))) (cRet (cLc (ciVal (cVar 0)) (cgName 1) cYes (cCall rec [] (cCons (cVar 1) cNil)) [1])) cNext)
    (cRet (cVar 0)))
def T__law_table_L1 : CTS := (cSeq (cSetN 9 (cOp (cIx []) (cVar 2) (cCall sp__law_pick [] (cCons (cVar 0) (cCons (cCB (cLen []) (cCons (cVar 2) cNil)) cNil)))))
    (cSeq (cIfS (cAnd (cTest (cOp cEq (cVar 4) (cC (.int 1)))) (cTest (cOp cEq (cCall sp__law_pick [] (cCons (cVar 0) (cCons (cC (.int 2)) cNil))) (cC (.int 0))))) (cSetN 9 (cC (.str "p"))) cNext)
    (cDrop (cBM ["list"] kAppend (cVar 7) (cCons (cTup (cCons (cVar 9) (cCons (cCall sp__law_pick [] (cCons (cVar 0) (cCons (cVar 3) cNil))) cNil))) cNil)))))
def T__law_table_L2 : CTS := (cSeq (cSetN 7 (cLst cNil))
    (cSeq (cFor (ciRg1 (cVar 1)) (cgName 8) T__law_table_L1)
    (cDrop (cBM ["list"] kAppend (cVar 5) (cCons (cCB cTuple (cCons (cVar 7) cNil)) cNil)))))
/-- _law_table -/
def T__law_table : CTS := (cSeq (cSetN 3 (cOp cAdd (cC (.int 1)) (cCall sp__law_pick [] (cCons (cVar 0) (cCons (cC (.int 4)) cNil)))))
    (cSeq (cSetN 4 (cCall sp__law_pick [] (cCons (cVar 0) (cCons (cC (.int 2)) cNil))))
    (cSeq (cSetN 5 (cLst cNil))
    (cSeq (cFor (ciRg1 (cVar 3)) (cgName 6) T__law_table_L2)
    (cRet (cCB cTuple (cCons (cVar 5) cNil)))))))
def T__law_walk_L1 : CTS := (cSeq (cIfS (cTest (cOp (InT [] false) (cTup (cCons (cVar 5) (cCons (cVar 4) cNil))) (cVar 7))) (cSeq (cSetN 9 (cOp (cIx []) (cVar 7) (cTup (cCons (cVar 5) (cCons (cVar 4) cNil)))))
    (cRet (cTup (cCons (cC (.str "loop")) (cCons (cSlice cSl (cVar 6) cNoPart (cPart (cVar 9))) (cCons (cSlice cSl (cVar 6) (cPart (cVar 9)) cNoPart) cNil)))))) cNext)
    (cSeq (cAsg (cCB (cLen []) (cCons (cVar 6) cNil)) (cgSub (cVar 7) (cTup (cCons (cVar 5) (cCons (cVar 4) cNil))) cSet))
    (cSeq (cAsg (cOp (cIx []) (cOp (cIx []) (cVar 1) (cVar 5)) (cBM ["tuple", "list"] kIndex (cVar 4) (cCons (cVar 2) cNil))) (cgTup 2 (cgCons (cgName 10) (cgCons (cgName 5) cgNil))))
    (cSeq (cSetN 6 (cOp cAdd (cVar 6) (cVar 10)))
    (cSeq (cSetN 4 (cCall sp__law_moved [] (cCons (cVar 4) (cCons (cOp (cIx []) (cVar 0) (cVar 10)) cNil))))
    (cIfS (cTest (cOp cEq (cVar 4) (cVar 3))) (cRet (cTup (cCons (cC (.str "round")) (cCons (cVar 6) cNil)))) cNext))))))
/-- _law_walk -/
def T__law_walk : CTS := (cSeq (cSetN 4 (cVar 3))
    (cSeq (cSetN 5 (cC (.int 0)))
    (cSeq (cSetN 6 (cC (.str "")))
    (cSeq (cSetN 7 (cNewD true))
    (cSeq (cFor (ciRg1 (cC (.int 500))) (cgName 8) T__law_walk_L1)
    (cRet (cTup cNil)))))))
theorem p__law_rounds : ∀ cs G R, sp__law_rounds cs G R → T__law_rounds (endR R) (cstart 1 cs) G := by
  intro cs G R h
  unfold sp__law_rounds at h
  split at h
  · obtain ⟨n, rfl, hn, h⟩ := h
    unfold T__law_rounds
    simp [cstart]
    refine ⟨rgOk_n hn, ?_⟩
    rw [rg_row]
    exact .of h .rfl'
  · exact h.elim
theorem p__law_moved : ∀ cs G R, sp__law_moved cs G R → T__law_moved (endR R) (cstart 3 cs) G := by
  intro cs G R h
  have : T__law_moved = T_times := rfl
  rw [this]
  refine p_times cs G R ?_
  unfold sp__law_moved at h
  split at h
  · obtain ⟨r, m, rfl, rfl, h⟩ := h
    exact ⟨r, m, rfl, rfl, h⟩
  · exact h.elim
theorem rg_comp (n : Nat) : (List.range n).map (fun k : Nat => CV.int (1 + (k : Int))) = (List.range' 1 n).map nC := by
  rw [List.range'_eq_map_range, List.map_map]
  refine List.map_congr_left fun k _ => ?_
  show CV.a (V.int _) = CV.a (V.int _)
  congr 2
theorem p__law_change_move : ∀ cs G R, sp__law_change_move cs G R → T__law_change_move (endR R) (cstart 5 cs) G := by
  intro cs G R h
  unfold sp__law_change_move at h
  split at h
  · obtain ⟨ch, n, rfl, rfl, hn, hc, h⟩ := h
    unfold T__law_change_move
    simp [cstart]
    refine ⟨by omega, fun q hq => ?_⟩
    rw [rg_comp]
    refine lcL_map (fun v => v) (fun _ => trivial) _ [] (by rw [sizeLine_eq]; simp; omega) (fun v hv acc K hK => ?_) ?_
    · simp [cwipe]
      exact hK
    · rw [List.nil_append, List.map_id']
      refine ⟨by omega, ?_⟩
      refine forL_inv (fun i τ G' => ∃ (p k s : Nat) (l' done : List Nat) (o4 : Option CV), τ = [some (rowC ch), some (nC n), some (.a (.ref q)), some (nC s), o4] ∧ G' = cup G q (.lst ((done ++ List.range' p k).map nC)) ∧ Ch k p l' ∧ (∀ x, p ≤ x → (x ∈ ch ↔ x ∈ l')) ∧ done.length = p - 1 ∧ 1 ≤ p ∧ p + k = n + 1 ∧ done ++ cmGo ch k p = mvOf ch n ∧ (s = p ∨ (k = 0 ∧ p ≤ s)) ∧ (k + i ≤ n ∨ k = 0)) _ ?_ ?_ ?_
      · rintro i x hx τ G' ⟨p, k, s, l', done, o4, rfl, rfl, c1, hm, hd, p1, pk, hmv, hs, hi⟩ K B hK hB
        refine ⟨trivial, ?_⟩
        simp [T__law_change_move_L1]
        have e1 : ((s : Int) + 1) = ((s + 1 : Nat) : Int) := by omega
        have e2 : ((s : Int) + 1 + 1) = ((s + 2 : Nat) : Int) := by omega
        cases c1 with
        | nil =>
          refine .inl ⟨by omega, ?_⟩
          rw [e1]
          exact hK _ _ ⟨p, 0, s + 1, [], done, _, rfl, by simp, .nil _, hm, hd, p1, pk, hmv, .inr ⟨rfl, by omega⟩, .inr rfl⟩
        | @keep k _ l2 c2 =>
          have hsp : s = p := by omega
          subst hsp
          have hp : s ∈ ch := (hm s (Nat.le_refl _)).mpr List.mem_cons_self
          have next : K [some (rowC ch), some (nC n), some (.a (.ref q)), some (.a (.int ((s : Int) + 1))), some x] (cup G q (.lst ((done ++ List.range' s (k + 1)).map nC))) := by
            rw [e1]
            refine hK _ _ ⟨s + 1, k, s + 1, l2, done ++ [s], _, rfl, ?_, c2, fun x hx => by rw [hm x (by omega)]; simp; omega, by simp; omega, by omega, by omega, ?_, .inl rfl, by omega⟩
            · rw [List.range'_succ]; simp
            · rw [← hmv, cmGo_keep hp]; simp
          by_cases hlt : s < n
          · refine .inr ⟨hlt, ?_⟩
            refine InT_row ?_
            rw [decide_eq_true hp]
            simp [xr]
            simpa using next
          · refine .inl ⟨by omega, ?_⟩
            simpa using next
        | @swap k _ _ c2 =>
          have hsp : s = p := by omega
          subst hsp
          have hp : s ∉ ch := fun z => by
            have := c2.mem s ((hm s (Nat.le_refl _)).mp z)
            omega
          refine .inr ⟨by omega, ?_⟩
          refine InT_row ?_
          rw [decide_eq_false hp]
          simp [xr]
          have hl : (done.map nC).length = s - 1 := by rw [List.length_map]; exact hd
          have e3 : (done ++ List.range' s (k + 2)).map nC = done.map nC ++ nC s :: nC (s + 1) :: (List.range' (s + 2) k).map nC := by
            rw [List.range'_succ, List.range'_succ]; simp
          have s1 : ∀ {v : CV} {R : CH → Prop}, cSet (.a (.ref q)) (.a (.int ((s : Int) - 1))) v (cup G q (.lst (done.map nC ++ nC s :: nC (s + 1) :: (List.range' (s + 2) k).map nC))) R = R (cup G q (.lst (done.map nC ++ v :: nC (s + 1) :: (List.range' (s + 2) k).map nC))) := by
            intro v R
            rw [cSet_l cup_same, ixN_pred p1 (by simp; omega)]
            dsimp only
            rw [← hl, set_mid, cup_cup]
          have s2 : ∀ {v w : CV} {R : CH → Prop}, cSet (.a (.ref q)) (nC s) v (cup G q (.lst (done.map nC ++ w :: nC (s + 1) :: (List.range' (s + 2) k).map nC))) R = R (cup G q (.lst (done.map nC ++ w :: v :: (List.range' (s + 2) k).map nC))) := by
            intro v w R
            have e3 : done.map nC ++ w :: nC (s + 1) :: (List.range' (s + 2) k).map nC = (done.map nC ++ [w]) ++ nC (s + 1) :: (List.range' (s + 2) k).map nC := by simp
            rw [cSet_l cup_same, ixN_at (by simp; omega)]
            dsimp only
            rw [e3, show s = (done.map nC ++ [w]).length by rw [List.length_append, hl, List.length_singleton]; omega, set_mid, cup_cup]
            simp
          rw [← List.map_append, e3]
          try simp only [cgSub_e, cVar_e, cC_e, cOp_e]
          simp [s1, s2]
          rw [e2]
          refine hK _ _ ⟨s + 2, k, s + 2, _, done ++ [s + 1, s], _, rfl, ?_, c2, fun x hx => by rw [hm x (by omega)], by simp; omega, by omega, by omega, ?_, .inl rfl, by omega⟩
          · simp
            rfl
          · rw [← hmv, cmGo_swap hp]; simp
      · rintro τ G' ⟨p, k, s, l', done, o4, rfl, rfl, c1, hm, hd, p1, pk, hmv, hs, hi⟩
        refine ⟨trivial, ?_⟩
        have : k = 0 := by simp at hi; omega
        subst this
        simp [cTuple_l]
        have e : done = mvOf ch n := by simpa [cmGo] using hmv
        rw [e]
        exact .of h (Sub.new hq)
      · refine ⟨1, n, 1, ch, [], none, rfl, by simp, hc, fun _ _ => Iff.rfl, rfl, Nat.le_refl _, by omega, rfl, .inl rfl, .inl (by omega)⟩
  · exact h.elim
theorem seqIx_nat {i n : Nat} (h : i < n) : seqIndex? (i : Int) n = some i := by
  unfold seqIndex?
  simp
  omega
theorem kPop_at {k : String} {p : Addr} {xs : List CV} {i : Nat} {y : CV} {G : CH} {R : CVK} (h : G p = some (.lst xs)) (hy : xs[i]? = some y) (hs : xs.length ≤ 1000) (hR : R y (cup G p (.lst (xs.eraseIdx i)))) : kPop k (.a (.ref p)) [nC i] G R := by
  have hi : i < xs.length := (List.getElem?_eq_some_iff.mp hy).1
  unfold kPop
  simp only [h]
  refine ⟨by omega, by omega, ?_⟩
  rw [seqIx_nat hi]
  simp only [hy]
  exact hR
theorem erase_perm {α : Type} : ∀ {l : List α} {i : Nat} (h : i < l.length), (l[i] :: l.eraseIdx i).Perm l
  | x :: l, 0, _ => .refl _
  | x :: l, i + 1, h => by
    have := erase_perm (l := l) (i := i) (by simpa using h)
    show (l[i]'(by simpa using h) :: x :: l.eraseIdx i).Perm (x :: l)
    exact (List.Perm.swap _ _ _).trans (this.cons x)
theorem erase_map {α β : Type} {f : α → β} : ∀ {l : List α} {i : Nat}, (l.map f).eraseIdx i = (l.eraseIdx i).map f
  | [], _ => rfl
  | x :: l, 0 => rfl
  | x :: l, i + 1 => by
    show f x :: (l.map f).eraseIdx i = f x :: (l.eraseIdx i).map f
    rw [erase_map]
theorem perm_of {n : Nat} {r : List Nat} (h : r.Perm (List.range' 1 n)) : Perm n r := ⟨by rw [h.length_eq]; simp, h.nodup_iff.mpr List.nodup_range', fun x hx => by
  have := h.mem_iff.mp hx
  rw [List.mem_range'_1] at this
  omega⟩
theorem p__law_row : ∀ cs G R, sp__law_row cs G R → T__law_row (endR R) (cstart 6 cs) G := by
  intro cs G R h
  unfold sp__law_row at h
  split at h
  · rename_i p i
    obtain ⟨n, q, k, rfl, hn, hk, hD, h⟩ := h
    unfold T__law_row
    simp [cstart]
    refine ⟨by omega, fun L hL => ?_⟩
    rw [rg_comp]
    refine lcL_map (fun v => v) (fun _ => trivial) _ [] (by rw [sizeLine_eq]; simp; omega) (fun v hv acc K hK => ?_) ?_
    · simp [cwipe]
      exact hK
    · rw [List.nil_append, List.map_id']
      skip
      intro O hO
      have nLO : L ≠ O := fun z => by subst z; rw [cup_same] at hO; cases hO
      rw [cup_ne (Ne.symm nLO)] at hO
      have hp := hD.ne hL
      have hq := hD.ne hO
      refine ⟨by omega, ?_⟩
      refine forL_inv (fun i τ G' => ∃ (lf ou : List Nat) (o4 : Option CV), τ = [some (.a (.ref p)), some (nC n), some (.a (.ref L)), some (.a (.ref O)), o4, none] ∧ G' L = some (.lst (lf.map nC)) ∧ G' O = some (.lst (ou.map nC)) ∧ (ou ++ lf).Perm (List.range' 1 n) ∧ ou.length = i ∧ SubBut p G G' ∧ DrawQ G' p q (k + i)) _ ?_ ?_ ?_
      · rintro i x hx τ G1 ⟨lf, ou, o4, rfl, eL, eO, pm, hou, sb, dq⟩ K B hK hB
        refine ⟨trivial, ?_⟩
        have hi : i < n := by
          have := (List.getElem?_eq_some_iff.mp hx).1
          simpa using this
        have hlen : lf.length + ou.length = n := by
          have := pm.length_eq
          simp at this
          omega
        simp [T__law_row_L1, bty_l eO, bty_l eL]
        rw [cLen_l eL]
        simp only [List.length_map]
        refine sp_pick_a (by omega) (by omega) dq fun x G2 _ hx sb2 dq2 => ?_
        have hx := hx (by omega)
        have eL2 := sb2 L _ hp.1 eL
        have eO2 := sb2 O _ hq.1 eO
        refine kPop_at (y := nC lf[x]) eL2 (by rw [List.getElem?_map, List.getElem?_eq_getElem hx]; rfl) (by simp; omega) ?_
        rw [kAppend_l (by rw [cup_ne (Ne.symm nLO)]; exact eO2)]
        refine ⟨by rw [sizeLine_eq]; simp; omega, ?_⟩
        refine hK _ _ ⟨lf.eraseIdx x, ou ++ [lf[x]], _, rfl, ?_, ?_, ?_, by simp [hou], ((sb.trans sb2).put hL).put hO, ?_⟩
        · rw [cup_ne nLO, cup_same, erase_map]
        · rw [cup_same]; simp
        · rw [List.append_assoc]
          exact ((erase_perm hx).append_left ou).trans pm
        · exact ((dq2.put hp.1 hp.2).put hq.1 hq.2).le (by omega)
      · rintro τ G1 ⟨lf, ou, o4, rfl, eL, eO, pm, hou, sb, dq⟩
        refine ⟨trivial, ?_⟩
        simp at hou
        have hlf : lf = [] := by
          have := pm.length_eq
          simp at this
          exact List.length_eq_zero_iff.mp (by omega)
        subst hlf
        simp
        rw [cTuple_l eO]
        refine .of (h ou G1 (perm_of (by simpa using pm)) sb (dq.le (by simp; omega))) .rfl'
      · refine ⟨List.range' 1 n, [], none, rfl, ?_, ?_, by simp, rfl, ((SubBut.rfl'.put hL).put hO), ?_⟩
        · rw [cup_ne nLO, cup_same]
        · rw [cup_same]; rfl
        · exact ((hD.put hp.1 hp.2).put hq.1 hq.2)
  · exact h.elim
/-- the letters but p -/
def alpha : List Nat := [97, 98, 99, 100, 101, 102, 103, 104, 105, 106, 107, 108, 109, 110, 111, 113, 114, 115, 116, 117, 118, 119, 120, 121, 122]
theorem alpha_eq : signs ("abcdefghijklmnoqrstuvwxyz" : Str) = alpha.map letC := by
  have : ("abcdefghijklmnoqrstuvwxyz" : Str).cps.toList = alpha := by decide +kernel
  unfold signs
  rw [this]
theorem alpha_lt : ∀ c ∈ alpha, Lt c ∧ c ≠ 112 := by
  unfold Lt
  decide
theorem p__law_letter : ∀ cs G R, sp__law_letter cs G R → T__law_letter (endR R) (cstart 4 cs) G := by
  intro cs G R h
  unfold sp__law_letter at h
  split at h
  · rename_i p z
    obtain ⟨us, q, k, rfl, hu, hk, hD, h⟩ := h
    unfold T__law_letter
    simp [cstart]
    intro L hL
    have hp := hD.ne hL
    have hal : alpha.length = 25 := rfl
    rw [alpha_eq]
    refine lcL_inv (fun i acc G' => acc = ((alpha.take i).filter fun c => decide (c ∉ us)).map letC ∧ G' = cup G L (.lst acc)) _ (by rw [sizeLine_eq]; simp [hal]) ?_ ?_ cup_same ⟨rfl, rfl⟩
    · rintro i x hx acc G1 eG hl ⟨ha, rfl⟩ K W hK hW
      refine ⟨trivial, ?_⟩
      rw [List.getElem?_map] at hx
      obtain ⟨c, hc, rfl⟩ := Option.map_eq_some_iff.mp hx
      have ht : alpha.take (i + 1) = alpha.take i ++ [c] := by rw [List.take_add_one, hc]; rfl
      simp [cwipe]
      refine InT_sign ?_
      by_cases hm : c ∈ us
      · have : decide (c ∈ (txt us).cps.toList) = true := decide_eq_true hm
        rw [this]
        simp [xr]
        refine hW _ cup_same ⟨?_, rfl⟩
        rw [ht, List.filter_append, ha]
        simp [hm]
      · have : decide (c ∈ (txt us).cps.toList) = false := decide_eq_false hm
        rw [this]
        simp [xr]
        refine hK _ _ cup_same ⟨?_, by rw [cup_cup]⟩
        rw [ht, List.filter_append, ha]
        simp [hm]
    · rintro acc G1 eG ⟨ha, rfl⟩
      refine ⟨trivial, ?_⟩
      rw [List.length_map, List.take_length] at ha
      try simp
      rw [cLen_l cup_same]
      have hne : 1 ≤ (alpha.filter fun c => decide (c ∉ us)).length := by
        cases e : alpha.filter fun c => decide (c ∉ us) with
        | cons x r => simp
        | nil =>
          have hs : ∀ x ∈ alpha, x ∈ us := fun x hx => by
            apply Classical.byContradiction
            intro hn
            have := (List.filter_eq_nil_iff.mp e) x hx
            simp at this
            exact hn this
          have := nodup_sub (l := alpha) (m := us) (by decide) hs
          omega
      have hle : (alpha.filter fun c => decide (c ∉ us)).length ≤ 25 := by
        have := List.length_filter_le (fun c => decide (c ∉ us)) alpha
        omega
      have hal : acc.length = (alpha.filter fun c => decide (c ∉ us)).length := by rw [ha, List.length_map]
      rw [hal]
      refine sp_pick_a (by omega) (by omega) (hD.put hp.1 hp.2) fun x G2 _ hx sb dq => ?_
      have hx := hx hne
      have e2 := sb L _ hp.1 cup_same
      rw [cIx_l e2, atI_nat (v := letC (alpha.filter fun c => decide (c ∉ us))[x]) (by rw [ha, List.getElem?_map, List.getElem?_eq_getElem hx]; rfl)]
      have hm := List.getElem_mem hx
      obtain ⟨m1, m2⟩ := List.mem_filter.mp hm
      obtain ⟨a1, a2⟩ := alpha_lt _ m1
      refine .of (h _ G2 a1 a2 (of_decide_eq_true m2) ((SubBut.rfl'.put hL).trans sb) dq) .rfl'
  · exact h.elim
theorem cIx_lit {xs : List CV} {i : Int} {c : CV} {G : CH} {R : CVK} (h : L2.atI xs i = some c) (hR : R c G) : cIx [] (.tup xs) (.a (.int i)) G R := by
  rw [cIx_t, h]
  exact hR
theorem leC_int (i j : Int) : leC (.a (.int i)) (.a (.int j)) = decide (i ≤ j) := by
  have := congrFun (congrFun (PySem.W.dataLe_int (fun b : Int => b)) i) j
  unfold leC
  rw [PySem.W.dataLe_eq] at this ⊢
  show (bif false then !PySem.W.dataLt (datC _) (datC _) else !PySem.W.dataLt (datC (.a (.int j))) (datC (.a (.int i)))) = _
  rw [datC_i, datC_i]
  exact this
theorem sortOk_ints (l : List Nat) (h : l.length ≤ 1000) : SortOk (l.map nC) := by
  have hd : ∀ x ∈ l.map nC, ∃ i : Int, x = .a (.int i) := fun x hx => by
    obtain ⟨n, _, rfl⟩ := List.mem_map.mp hx
    exact ⟨_, rfl⟩
  refine ⟨?_, ?_, .inr ?_, by rw [sizeLine_eq]; simp; omega, ?_⟩
  · clear h hd
    induction l with
    | nil => unfold areDat; rfl
    | cons x l ih =>
      rw [List.map_cons]
      unfold areDat isDat
      rw [ih]
      rfl
  · intro d h1 d' h2
    obtain ⟨x, hx, rfl⟩ := List.mem_map.mp h1
    obtain ⟨y, hy, rfl⟩ := List.mem_map.mp h2
    obtain ⟨i, rfl⟩ := hd x hx
    obtain ⟨j, rfl⟩ := hd y hy
    rw [datC_i, datC_i]
    simp [PySem.W.alike]
  · intro d h1
    obtain ⟨x, hx, rfl⟩ := List.mem_map.mp h1
    obtain ⟨i, rfl⟩ := hd x hx
    rw [datC_i]
    exact ⟨nofun, nofun⟩
  · intro x hx
    obtain ⟨i, rfl⟩ := hd x hx
    rw [datC_i]
    simp [PyData.depth]
/-- sorting numbers that fall turns them round -/
theorem sort_falls {l : List Nat} (h : l.reverse.Pairwise (· < ·)) : (l.map nC).mergeSort leC = l.reverse.map nC := by
  have le1 : ∀ a b : Nat, leC (nC a) (nC b) = decide (a ≤ b) := fun a b => by rw [leC_int]; exact decide_eq_decide.mpr (by omega)
  have tot := PySem.W.sortLe_total (listOrd itemOrd) false (fun b => PySem.W.keyToks (datC b))
  refine List.Perm.eq_of_pairwise (le := fun a b => leC a b = true) ?_ ?_ ?_ ?_
  · intro a b ha hb h1 h2
    obtain ⟨x, _, rfl⟩ := List.mem_map.mp ((List.mergeSort_perm _ _).mem_iff.mp ha)
    obtain ⟨y, _, rfl⟩ := List.mem_map.mp hb
    rw [le1] at h1 h2
    have := of_decide_eq_true h1
    have := of_decide_eq_true h2
    rw [show x = y from by omega]
  · exact List.pairwise_mergeSort (fun a b c => tot.trans a b c) (fun a b => by simpa using tot.total a b) _
  · rw [List.pairwise_map]
    refine h.imp fun {a b} hab => ?_
    rw [le1]
    exact decide_eq_true (by omega)
  · exact (List.mergeSort_perm _ _).trans ((List.reverse_perm l).symm.map nC)
theorem p__law_kept_last : ∀ cs G R, sp__law_kept_last cs G R → T__law_kept_last (endR R) (cstart 4 cs) G := by
  intro cs G R h
  unfold sp__law_kept_last at h
  split at h
  · rename_i p i
    obtain ⟨n, q, k, rfl, n1, hn, hk, hD, h⟩ := h
    unfold T__law_kept_last
    simp [cstart]
    refine sp_led_a (lo := 0) n1 hn (by omega) hk hD fun l G1 hl sb dq => ?_
    have hc := hl.ch
    have h1 := hl.one
    refine ⟨_, srcOf_tup, fun L hL => ?_⟩
    have ln := hc.len
    refine lcL_map (fun c => match c with
      | .a (.int i) => .a (.int ((n : Int) + 1 - i))
      | _ => c) (fun _ => trivial) _ [] (by simp; rw [sizeLine_eq]; omega) (fun x hx acc K hK => ?_) ?_
    · obtain ⟨m, hm, rfl⟩ := List.mem_map.mp hx
      simp [cwipe]
      exact hK
    · rw [List.nil_append, sVal_items, List.map_map]
      have e : l.map ((fun c => match c with
        | .a (.int i) => .a (.int ((n : Int) + 1 - i))
        | _ => c) ∘ nC) = (l.map fun x => n + 1 - x).map nC := by
        rw [List.map_map]
        refine List.map_congr_left fun m hm => ?_
        have := hc.mem m hm
        show CV.a (V.int ((n : Int) + 1 - (m : Int))) = CV.a (V.int ((n + 1 - m : Nat) : Int))
        congr 2
        omega
      rw [e]
      have hmir := hc.mirror (n := n) 1 (by omega)
      have hs := sort_falls (l := l.map fun x => n + 1 - x) hmir.lts
      simp
      rw [cSorted_l cup_same]
      refine ⟨by rw [← List.map_map]; exact sortOk_ints _ (by simp; omega), fun L2 hL2 => ?_⟩
      rw [cTuple_l cup_same]
      have hs' : List.mergeSort (List.map (nC ∘ fun x => n + 1 - x) l) leC = ((l.map fun x => n + 1 - x).reverse).map nC := by rw [← hs, List.map_map]
      first | rw [hs'] | rw [hs]
      refine .of (h _ G1 hmir ?_ sb (dq.le (by omega))) ((Sub.new hL).trans (Sub.new hL2))
      rw [List.mem_reverse]
      exact List.mem_map.mpr ⟨1, h1, by omega⟩
  · exact h.elim
theorem sp_kept_a {H : CH} {p q : Addr} {k n : Nat} {R : CVK} (h1 : 1 ≤ n) (hn : n ≤ 8) (hk : k ≤ 900000) (h : DrawQ H p q k) (hR : ∀ (l : List Nat) (G : CH), Ch n 1 l → n ∈ l → SubBut p H G → DrawQ G p q (k + 100) → R (rowC l) G) : sp__law_kept_last [.a (.ref p), nC n] H R := ⟨n, q, k, rfl, h1, hn, hk, h, hR⟩
theorem p__law_hunting : ∀ cs G R, sp__law_hunting cs G R → T__law_hunting (endR R) (cstart 4 cs) G := by
  intro cs G R h
  unfold sp__law_hunting at h
  split at h
  · rename_i p i
    obtain ⟨n, q, k, rfl, n1, hn, hk, hD, h⟩ := h
    unfold T__law_hunting
    simp [cstart]
    refine ⟨by omega, fun L hL => ?_⟩
    have hp := hD.ne hL
    refine lcL_inv (fun i acc G' => ∃ ls : List (List Nat), acc = ls.map rowC ∧ ls.length = i ∧ (∀ l ∈ ls, Ch n 1 l) ∧ TrebAt n ls i ∧ SubBut p G G' ∧ DrawQ G' p q (k + 100 * i)) _ (by rw [sizeLine_eq]; simp; omega) ?_ ?_ cup_same ⟨[], rfl, rfl, (fun l hl => by cases hl), .nil n1, SubBut.rfl'.put hL, (hD.put hp.1 hp.2)⟩
    · rintro i x hx acc G1 eG hl ⟨ls, rfl, hlen, hch, ht, sb, dq⟩ K W hK hW
      refine ⟨trivial, ?_⟩
      have hi : i < n - 1 := by
        have := (List.getElem?_eq_some_iff.mp hx).1
        simpa using this
      have ex : x = nC (i + 1) := by
        rw [List.getElem?_map, List.getElem?_range hi] at hx
        simp at hx
        rw [← hx]
        show CV.a (V.int _) = CV.a (V.int _)
        congr 2
        omega
      subst ex
      simp [cwipe]
      refine sp_led_a (lo := i + 1) n1 hn (by omega) (by omega) dq fun l G2 hl2 sb2 dq2 => ?_
      refine hK _ G2 (sb2 L _ hp.1 eG) ⟨ls ++ [l], by simp, by simp [hlen], fun y hy => ?_, ht.up hl2, (sb.trans sb2).put hL, (dq2.put hp.1 hp.2).le (by omega)⟩
      rcases List.mem_append.mp hy with hy | hy
      · exact hch y hy
      · rw [List.mem_singleton] at hy; subst hy; exact hl2.ch
    · rintro acc G1 eG ⟨ups, rfl, hlen, hch, ht, sb, dq⟩
      refine ⟨trivial, ?_⟩
      simp at hlen ht dq
      try simp [bty_l eG]
      refine sp_kept_a n1 hn (by omega) dq fun kl G2 hkl hkm sb2 dq2 => ?_
      have e2 := sb2 L _ hp.1 eG
      rw [kAppend_l e2]
      refine ⟨by rw [sizeLine_eq]; simp; omega, ?_⟩
      skip
      refine ⟨n - 1, ?_, ?_⟩
      · have := RgC.neg (i := (n : Int) - 1) (j := 0) (by omega) (by omega) (by omega) (by omega)
        rw [show ((n : Int) - 1 - 0).toNat = n - 1 from by omega] at this
        exact this
      have ht1 : TrebAt n (ups ++ [kl]) (n - 1) := ht.stay hkl (by rw [show n - 1 + 1 = n from by omega]; exact hkm)
      have hch1 : ∀ l ∈ ups ++ [kl], Ch n 1 l := fun y hy => by
        rcases List.mem_append.mp hy with hy | hy
        · exact hch y hy
        · rw [List.mem_singleton] at hy; subst hy; exact hkl
      refine forL_inv (fun i τ G' => ∃ (ls : List (List Nat)) (o3 : Option CV), τ = [some (.a (.ref p)), some (nC n), some (.a (.ref L)), o3] ∧ G' L = some (.lst (ls.map rowC)) ∧ ls.length = n + i ∧ (∀ l ∈ ls, Ch n 1 l) ∧ TrebAt n ls (n - 1 - i) ∧ SubBut p G G' ∧ DrawQ G' p q (k + 100 * (n - 1) + 100 + 100 * i)) _ ?_ ?_ ?_
      · rintro i x hx τ G3 ⟨ls, o3, rfl, e3, hlen3, hch3, ht3, sb3, dq3⟩ K B hK hB
        refine ⟨trivial, ?_⟩
        have hi : i < n - 1 := by
          have := (List.getElem?_eq_some_iff.mp hx).1
          simpa using this
        have ex : x = nC (n - 1 - i) := by
          rw [List.getElem?_map, List.getElem?_range hi] at hx
          simp at hx
          rw [← hx]
          show CV.a (V.int _) = CV.a (V.int _)
          congr 2
          omega
        subst ex
        simp [T__law_hunting_L1, bty_l e3]
        refine sp_led_a (lo := n - 1 - i) n1 hn (by omega) (by omega) dq3 fun l G4 hl4 sb4 dq4 => ?_
        have e4 := sb4 L _ hp.1 e3
        rw [kAppend_l e4]
        refine ⟨by rw [sizeLine_eq]; simp; omega, ?_⟩
        refine hK _ _ ⟨ls ++ [l], _, rfl, by rw [cup_same]; simp, by simp; omega, fun y hy => ?_, ?_, (sb3.trans sb4).put hL, (dq4.put hp.1 hp.2).le (by omega)⟩
        · rcases List.mem_append.mp hy with hy | hy
          · exact hch3 y hy
          · rw [List.mem_singleton] at hy; subst hy; exact hl4.ch
        · have e5 : n - 1 - i = (n - 1 - (i + 1)) + 1 := by omega
          rw [e5] at ht3 hl4
          exact ht3.down hl4
      · rintro τ G3 ⟨ls, o3, rfl, e3, hlen3, hch3, ht3, sb3, dq3⟩
        refine ⟨trivial, ?_⟩
        simp at hlen3 ht3 dq3
        simp [bty_l e3]
        refine sp_led_a (lo := 0) n1 hn (by omega) (by omega) dq3 fun l G4 hl4 sb4 dq4 => ?_
        have e4 := sb4 L _ hp.1 e3
        rw [kAppend_l e4]
        refine ⟨by rw [sizeLine_eq]; simp; omega, ?_⟩
        skip
        refine .of (h (ls ++ [l]) L _ ⟨by simp; omega, fun y hy => ?_, by rw [List.dropLast_concat]; exact ht3, l, by rw [List.dropLast_concat], hl4.one⟩ hp.1 (by rw [cup_same]; simp) ((sb3.trans sb4).put hL) ((dq4.put hp.1 hp.2).le (by omega))) .rfl'
        rcases List.mem_append.mp hy with hy | hy
        · exact hch3 y hy
        · rw [List.mem_singleton] at hy; subst hy; exact hl4.ch
      · refine ⟨ups ++ [kl], none, rfl, by rw [cup_same]; simp, by simp [hlen]; omega, hch1, ht1, (sb.trans sb2).put hL, ((dq2.put hp.1 hp.2).le (by omega))⟩
  · exact h.elim
theorem txt_nil : (Str.ofString "" : Str) = txt [] := by decide +kernel
def unlet : CV → Nat
  | .a (.str z) => z.cps.toList.headD 0
  | _ => 0
theorem unlet_let (c : Nat) : unlet (letC c) = c := rfl
theorem perm_letters {l : List CV} {cs : List Nat} (h : l.Perm (cs.map letC)) : ∃ ds : List Nat, l = ds.map letC ∧ ds.Perm cs := by
  refine ⟨l.map unlet, ?_, ?_⟩
  · rw [List.map_map]
    have : ∀ x ∈ l, (letC ∘ unlet) x = x := fun x hx => by
      obtain ⟨c, _, rfl⟩ := List.mem_map.mp (h.mem_iff.mp hx)
      rfl
    rw [List.map_congr_left this]
    simp
  · have := h.map unlet
    rw [List.map_map] at this
    have e : ∀ x ∈ cs, (unlet ∘ letC) x = x := fun x _ => rfl
    rw [List.map_congr_left e] at this
    simpa using this
theorem sortOk_letters (l : List Nat) (h : l.length ≤ 1000) : SortOk (l.map letC) := by
  have hd : ∀ x ∈ l.map letC, ∃ i : Str, x = .a (.str i) := fun x hx => by
    obtain ⟨n, _, rfl⟩ := List.mem_map.mp hx
    exact ⟨_, rfl⟩
  refine ⟨?_, ?_, .inr ?_, by rw [sizeLine_eq]; simp; omega, ?_⟩
  · clear h hd
    induction l with
    | nil => unfold areDat; rfl
    | cons x l ih =>
      rw [List.map_cons]
      unfold areDat isDat
      rw [ih]
      rfl
  · intro d h1 d' h2
    obtain ⟨x, hx, rfl⟩ := List.mem_map.mp h1
    obtain ⟨y, hy, rfl⟩ := List.mem_map.mp h2
    obtain ⟨i, rfl⟩ := hd x hx
    obtain ⟨j, rfl⟩ := hd y hy
    rw [datC_s, datC_s]
    simp [PySem.W.alike]
  · intro d h1
    obtain ⟨x, hx, rfl⟩ := List.mem_map.mp h1
    obtain ⟨i, rfl⟩ := hd x hx
    rw [datC_s]
    exact ⟨nofun, nofun⟩
  · intro x hx
    obtain ⟨i, rfl⟩ := hd x hx
    rw [datC_s]
    simp [PyData.depth]
theorem p__law_letters : ∀ cs G R, sp__law_letters cs G R → T__law_letters (endR R) (cstart 2 cs) G := by
  intro cs G R h
  unfold sp__law_letters at h
  split at h
  · rename_i w
    obtain ⟨M, rfl, ok, h⟩ := h
    have c5 := ok.c5
    unfold T__law_letters
    simp [cstart, worldC]
    refine ⟨by rw [sizeLine_eq]; decide, fun a1 ha1 => ?_⟩
    unfold callsC
    simp
    intro D hD
    refine lcL_map (fun c => match c with
      | .tup (x :: _) => x
      | _ => c) (fun _ => trivial) _ [] (by rw [sizeLine_eq]; simp; omega) (fun x hx acc K hK => ?_) ?_
    · obtain ⟨c, hc, rfl⟩ := List.mem_map.mp hx
      simp [cwipe]
      first | exact hK | exact cIx_lit rfl hK
    · have e : (M.cs.map calC).map (fun c => match c with
        | .tup (x :: _) => x
        | _ => c) = (M.cs.map (·.letter)).map letC := by
        rw [List.map_map, List.map_map]
        rfl
      rw [e, List.nil_append]
      have n1 : a1 ≠ D := fun z => by subst z; rw [cup_same] at hD; cases hD
      rw [cup_ne (Ne.symm n1)] at hD
      have s1 : Sub G (cup G a1 (.lst [.a (.str (Str.ofString "p"))])) := .new ha1
      have s2 := s1.put (p := D) (o := .lst ((M.cs.map (·.letter)).map letC)) hD
      refine ⟨_, _, by rw [cup_ne n1, cup_same], cup_same, by rw [sizeLine_eq]; simp; omega, fun a2 ha2 => ?_⟩
      have g2 : G a2 = none := s2.none ha2
      have e2 : [CV.a (.str (Str.ofString "p"))] ++ (M.cs.map (·.letter)).map letC = (112 :: M.cs.map (·.letter)).map letC := by
        rw [ltS_p]; rfl
      rw [e2]
      show cSorted [.a (.ref a2)] _ _
      rw [cSorted_l cup_same]
      refine ⟨sortOk_letters _ (by simp; omega), fun a3 ha3 => ?_⟩
      have g3 : G a3 = none := (s2.put g2).none ha3
      obtain ⟨ds, ed, pd⟩ := perm_letters (List.mergeSort_perm ((112 :: M.cs.map (·.letter)).map letC) leC)
      rw [ed]
      refine kJoin_letters cup_same (by rw [pd.length_eq]; simp; omega) ?_
      exact .of (h ds pd) ((s2.put g2).put g3)
  · exact h.elim
theorem MthOk.letter_lt {M : Mth} (ok : MthOk M) {c : Nat} (h : (M.lead c).isSome = true) : Lt c := by
  obtain ⟨l, e⟩ := Option.isSome_iff_exists.mp h
  have hm := lookup_memV e
  rcases List.mem_cons.mp hm with e | hm
  · injection e with e _
    subst e
    exact ⟨by decide, by decide⟩
  · obtain ⟨x, hx, e⟩ := List.mem_map.mp hm
    injection e with e _
    rw [← e]
    exact (ok.ok x hx).lt
theorem LtsOf.lead {M : Mth} {cs : List Nat} (h : LtsOf M cs) (c : Nat) : (M.lead c).isSome = true ↔ c ∈ cs := by
  rw [h.mem_iff]
  constructor
  · intro hs
    obtain ⟨l, e⟩ := Option.isSome_iff_exists.mp hs
    have hm : c ∈ M.leads.map (·.1) := List.mem_map.mpr ⟨(c, l), lookup_memV e, rfl⟩
    unfold Mth.leads at hm
    simpa using hm
  · intro hc
    have : c ∈ M.leads.map (·.1) := by
      unfold Mth.leads
      simpa using hc
    obtain ⟨b, e⟩ := lookup_some_mem this
    unfold Mth.lead
    rw [e]
    rfl
/-- the calls, one by one -/
def leadF (ls : List (List Nat)) (c : Nat) : List Cal → List (List Nat)
  | [] => ls
  | x :: cs => leadF (if x.letter = c then called ls x else ls) c cs
theorem leadF_snoc {c : Nat} {x : Cal} : ∀ {cs : List Cal} {ls : List (List Nat)}, leadF ls c (cs ++ [x]) = if x.letter = c then called (leadF ls c cs) x else leadF ls c cs
  | [], ls => rfl
  | y :: cs, ls => by
    rw [List.cons_append]
    show leadF _ c (cs ++ [x]) = _
    rw [leadF_snoc]
    rfl
theorem leadF_not {c : Nat} : ∀ {cs : List Cal} {ls : List (List Nat)}, c ∉ cs.map (·.letter) → leadF ls c cs = ls
  | [], _, _ => rfl
  | x :: cs, ls, h => by
    rw [List.map_cons, List.mem_cons, not_or] at h
    show leadF _ c cs = _
    rw [if_neg (Ne.symm h.1), leadF_not h.2]
theorem leadF_look {c : Nat} : ∀ {cs : List Cal} {ls : List (List Nat)}, (cs.map (·.letter)).Nodup → leadF ls c cs = ((cs.map fun x => (x.letter, called ls x)).lookup c).getD ls
  | [], _, _ => rfl
  | x :: cs, ls, h => by
    rw [List.map_cons] at h
    obtain ⟨h1, h2⟩ := List.nodup_cons.mp h
    show leadF _ c cs = _
    rw [List.map_cons, List.lookup_cons]
    by_cases e : x.letter = c
    · rw [if_pos e, leadF_not (by rw [← e]; exact h1)]
      simp [e]
    · rw [if_neg e, leadF_look h2]
      have : (c == x.letter) = false := by simpa using fun z => e z.symm
      rw [this]
theorem leadF_lead {M : Mth} (ok : MthOk M) {c : Nat} (h : (M.lead c).isSome = true) : leadF M.ls c M.cs = (M.lead c).getD [] := by
  obtain ⟨l, e⟩ := Option.isSome_iff_exists.mp h
  rw [e]
  show _ = l
  unfold Mth.lead Mth.leads at e
  rw [List.lookup_cons] at e
  by_cases hc : c = 112
  · subst hc
    simp at e
    rw [leadF_not]
    · exact e
    · intro z
      obtain ⟨x, hx, ex⟩ := List.mem_map.mp z
      exact (ok.ok x hx).np ex
  · have : (c == 112) = false := by simpa using hc
    rw [this] at e
    rw [leadF_look ok.nd]
    have e : List.lookup c (M.cs.map fun x => (x.letter, called M.ls x)) = some l := e
    rw [e]
    rfl
theorem p__law_lead_of : ∀ cs G R, sp__law_lead_of cs G R → T__law_lead_of (endR R) (cstart 4 cs) G := by
  intro cs G R h
  unfold sp__law_lead_of at h
  split at h
  · rename_i w z
    obtain ⟨M, c, rfl, rfl, ok, hs, h⟩ := h
    have l32 := ok.l32
    unfold T__law_lead_of
    simp [cstart, worldC]
    intro L hL
    have hlt := ok.letter_lt hs
    have c5 := ok.c5
    unfold callsC
    refine ⟨_, srcOf_tup, ?_⟩
    refine forL_inv (fun i τ G' => ∃ (a : Addr) (o3 : Option CV), τ = [some (.tup [nC M.n, rowsC M.ls, .tup (M.cs.map calC)]), some (.a (.str (ltS c))), some (.a (.ref a)), o3] ∧ Sub G G' ∧ G' a = some (.lst ((leadF M.ls c (M.cs.take i)).map rowC)) ∧ (leadF M.ls c (M.cs.take i)).length = M.ls.length) _ ?_ ?_ ?_
    · rintro i x hx τ G1 ⟨a, o3, rfl, sb, ea, hlen⟩ K B hK hB
      refine ⟨trivial, ?_⟩
      rw [sVal_items, List.getElem?_map] at hx
      obtain ⟨y, hy, rfl⟩ := Option.map_eq_some_iff.mp hx
      have hok := ok.ok y (List.mem_of_getElem? hy)
      have ht : M.cs.take (i + 1) = M.cs.take i ++ [y] := by rw [List.take_add_one, hy]; rfl
      have le := hok.le
      simp [T__law_lead_of_L1]
      refine ceq_ss hok.lt.txt hlt.txt ?_
      by_cases e : y.letter = c
      · have : decide (ltS y.letter = ltS c) = true := decide_eq_true (by rw [e])
        rw [this]
        simp
        generalize hcur : leadF M.ls c (M.cs.take i) = cur at ea hlen
        rw [cSl_l ea]
        intro b1 hb1
        rw [cut_to (by simp; omega)]
        intro b2 hb2
        have s1 := Sub.new (o := .lst (List.take y.at_ (cur.map rowC))) hb1
        have s2 := s1.trans (Sub.new (o := .lst (y.many.map rowC)) hb2)
        refine ⟨_, _, Sub.new hb2 _ _ cup_same, cup_same, by rw [sizeLine_eq]; simp; omega, fun b3 hb3 => ?_⟩
        have s3 := s2.trans (Sub.new (o := .lst (List.take y.at_ (cur.map rowC) ++ y.many.map rowC)) hb3)
        show cSl _ _ _ _ _
        rw [cSl_l (s3 _ _ ea)]
        intro b4 hb4
        have ec : ((y.at_ : Int) + (y.many.length : Int)) = ((y.at_ + y.many.length : Nat) : Int) := by omega
        rw [ec, cut_from (by simp; omega)]
        have s4 := s3.trans (Sub.new (o := .lst (List.drop (y.at_ + y.many.length) (cur.map rowC))) hb4)
        refine ⟨_, _, Sub.new hb4 _ _ cup_same, cup_same, by rw [sizeLine_eq]; simp; omega, fun b5 hb5 => ?_⟩
        have hcl : (called cur y).length = M.ls.length := by
          unfold called
          simp
          omega
        refine hK _ _ ⟨b5, _, rfl, (sb.trans s4).trans (Sub.new hb5), ?_, ?_⟩
        · rw [cup_same, ht, leadF_snoc, if_pos e, hcur]
          unfold called
          simp
        · rw [ht, leadF_snoc, if_pos e, hcur]
          exact hcl
      · have : decide (ltS y.letter = ltS c) = false := decide_eq_false (fun z => e (ltS_inj z))
        rw [this]
        simp
        refine hK _ _ ⟨a, _, rfl, sb, ?_, ?_⟩
        · rw [ht, leadF_snoc, if_neg e]; exact ea
        · rw [ht, leadF_snoc, if_neg e]; exact hlen
    · rintro τ G1 ⟨a, o3, rfl, sb, ea, hlen⟩
      refine ⟨trivial, ?_⟩
      rw [sVal_items, List.length_map, List.take_length, leadF_lead ok hs] at ea
      simp
      rw [cTuple_l ea]
      exact .of h sb
    · exact ⟨L, none, rfl, Sub.new hL, by rw [cup_same]; rfl, rfl⟩
  · exact h.elim
theorem txt_snoc (us : List Nat) (c : Nat) : txt us ++ ltS c = txt (us ++ [c]) := by
  show Str.append (txt us) (ltS c) = _
  unfold Str.append
  show (⟨us.toArray ++ #[c]⟩ : Str) = ⟨(us ++ [c]).toArray⟩
  simp
theorem txt_len (us : List Nat) : (txt us).length = us.length := rfl
theorem sp_letter_a {H : CH} {p q k : Nat} {us : List Nat} {R : CVK} (hu : us.length ≤ 10) (hk : k ≤ 900000) (h : DrawQ H p q k) (hR : ∀ (c : Nat) (G' : CH), Lt c → c ≠ 112 → c ∉ us → SubBut p H G' → DrawQ G' p q (k + 1) → R (letC c) G') : sp__law_letter [.a (.ref p), .a (.str (txt us))] H R := ⟨us, q, k, rfl, hu, hk, h, hR⟩
/-- plain changes of a world that hunts or not -/
structure PlainOk (b : Bool) (n : Nat) (ls : List (List Nat)) : Prop where
  n3 : 3 ≤ n
  n5 : n ≤ 5
  l1 : 1 ≤ ls.length
  l10 : ls.length ≤ 10
  ch : ∀ l ∈ ls, Ch n 1 l
  hunt : b = true → Hunt n ls
  few : b = false → n ≤ 4
structure CallsOk (b : Bool) (n : Nat) (ls : List (List Nat)) (cs : List Cal) : Prop where
  ok : ∀ c ∈ cs, CalOk n ls.length c
  nd : (cs.map (·.letter)).Nodup
  one : b = true → ∀ c ∈ cs, c.at_ = ls.length - 1 ∧ ∃ l, c.many = [l] ∧ 1 ∈ l ∧ Ch n 1 l
theorem world_ok {b : Bool} {n : Nat} {ls : List (List Nat)} {cs : List Cal} (hp : PlainOk b n ls) (hc : CallsOk b n ls cs) (h3 : cs.length ≤ 3) : MthOk ⟨n, ls, cs⟩ ∧ Few ⟨n, ls, cs⟩ := by
  have l10 := hp.l10
  have n5 := hp.n5
  refine ⟨⟨hp.n3, by show n ≤ 8; omega, hp.l1, by show ls.length ≤ 32; omega, hp.ch, by show cs.length ≤ 5; omega, hc.ok, hc.nd⟩, hp.n5, ?_⟩
  cases b with
  | false => exact .inl (hp.few rfl)
  | true =>
    refine .inr fun c hs => ?_
    have hu := hp.hunt rfl
    obtain ⟨l0, e0, m0⟩ := hu.one
    have key : ∀ l, Ch n 1 l → 1 ∈ l → (leadRows n (List.range' 1 n) (ls.dropLast ++ [l])).2.getD 0 0 = 1 := fun l h1 h2 => hu.tr.stay h1 h2
    obtain ⟨lead, el⟩ := Option.isSome_iff_exists.mp hs
    unfold Mth.move
    rw [el]
    have hm := lookup_memV el
    rcases List.mem_cons.mp hm with e | hm
    · injection e with _ e
      rw [e]
      show (leadRows n (List.range' 1 n) ls).2.getD 0 0 = 1
      rw [e0]
      exact key l0 (hp.ch l0 (by rw [e0]; exact List.mem_append_right _ (List.mem_singleton.mpr rfl))) m0
    · obtain ⟨x, hx, e⟩ := List.mem_map.mp hm
      injection e with _ e
      obtain ⟨a1, l, a2, a3, a4⟩ := hc.one rfl x hx
      have l1 := hp.l1
      show (leadRows n (List.range' 1 n) lead).2.getD 0 0 = 1
      rw [← e]
      unfold called
      rw [a1, a2]
      show (leadRows n (List.range' 1 n) (ls.take (ls.length - 1) ++ [l] ++ ls.drop (ls.length - 1 + 1))).2.getD 0 0 = 1
      rw [List.drop_eq_nil_of_le (by omega), List.append_nil, ← List.dropLast_eq_take]
      exact key l a4 a3
/-- the calls are drawn, the world is told -/
theorem world_calls {R : CVK} {p q a lst n k m : Nat} {b : Bool} {ls : List (List Nat)} {G0 G : CH} {o7 : Option CV} {kd : CV} (hp : PlainOk b n ls) (ap : a ≠ p) (ha : G a = some (.lst (ls.map rowC))) (hk : k ≤ 710000) (hD : DrawQ G p q k) (sb0 : SubBut p G0 G) (hm : lst ≤ m) (hm3 : m ≤ 3)
    (h : ∀ (M : Mth) (G' : CH), MthOk M → Few M → lst ≤ M.cs.length → M.cs.length ≤ 3 → SubBut p G0 G' → DrawQ G' p q (k + 4000) → R (worldC M) G') : ∀ A G1, G A = none → G1 A = some (.lst []) → SubBut p G G1 → DrawQ G1 p q k →
    forL (cgName 7) T__law_world_L1 ⟨cRet (cTup (cCons (cVar 3) (cCons (cCB cTuple (cCons (cVar 8) cNil)) (cCons (cCB cTuple (cCons (cVar 5) cNil)) cNil)))) (endR R), (endR R).rt, (endR R).bk, (endR R).ct⟩ (fun _ => True) ((List.range m).map fun i : Nat => CV.int (i : Int))
      [some (.a (.ref p)), some (nC lst), some kd, some (nC n), some (.a (.bl b)), some (.a (.ref A)), some (.a (.str (txt []))), o7, some (.a (.ref a)), none, none, none, none] G1 := by
  intro A Gs hA hA1 hsb hdq
  have hAp := hD.ne hA
  have hAa : A ≠ a := fun z => by subst z; rw [ha] at hA; cases hA
  refine forL_inv (fun i τ G' => ∃ (cs : List Cal) (o7 o9 o10 o11 : Option CV), τ = [some (.a (.ref p)), some (nC lst), some kd, some (nC n), some (.a (.bl b)), some (.a (.ref A)), some (.a (.str (txt (cs.map (·.letter))))), o7, some (.a (.ref a)), o9, o10, o11, none] ∧ cs.length = i ∧ CallsOk b n ls cs ∧ G' A = some (.lst (cs.map calC)) ∧ SubBut p G G' ∧ DrawQ G' p q (k + 1200 * i)) _ ?_ ?_ ?_
  · rintro i x hx τ G1 ⟨cs, o7, o9, o10, o11, rfl, hlen, hc, eA, sb, dq⟩ K B hK hB
    refine ⟨trivial, ?_⟩
    have hi : i < m := by
      have := (List.getElem?_eq_some_iff.mp hx).1
      simpa using this
    have l1 := hp.l1
    have l10 := hp.l10
    have n3 := hp.n3
    have n5 := hp.n5
    simp [T__law_world_L1]
    refine sp_letter_a (by simp; omega) (by omega) dq fun c G2 c1 c2 c3 sb2 dq2 => ?_
    simp
    refine ⟨by rw [sizeLine_eq]; simp [txt_len]; omega, ?_⟩
    have eu : txt (List.map (fun x => x.letter) cs) ++ ltS c = txt ((cs.map (·.letter)) ++ [c]) := txt_snoc _ _
    have eA2 := sb2 A _ hAp.1 eA
    have ea2 : G2 a = some (.lst (ls.map rowC)) := sb2 a _ ap (sb a _ ap ha)
    have nd2 : ∀ (c' : Cal), c'.letter = c → ((cs ++ [c']).map (·.letter)).Nodup := fun c' e => by
      rw [List.map_append, List.map_cons, List.map_nil, List.nodup_append]
      refine ⟨hc.nd, by simp, fun y hy z hz e2 => ?_⟩
      rw [List.mem_singleton] at hz
      subst hz; subst e2
      rw [e] at hy
      exact c3 hy
    have ok2 : ∀ (c' : Cal), CalOk n ls.length c' → ∀ y ∈ cs ++ [c'], CalOk n ls.length y := fun c' h y hy => by
      rcases List.mem_append.mp hy with hy | hy
      · exact hc.ok y hy
      · rw [List.mem_singleton] at hy; subst hy; exact h
    cases b with
    | true =>
      simp [bty_l eA2]
      rw [cLen_l ea2]
      simp
      refine sp_led_a (lo := 0) (by omega) (by omega) (by omega) (by omega) dq2 fun l G3 hl sb3 dq3 => ?_
      have eA3 := sb3 A _ hAp.1 eA2
      refine ⟨by rw [sizeLine_eq]; decide, by rw [sizeLine_eq]; decide, ?_⟩
      rw [kAppend_l eA3]
      refine ⟨by rw [sizeLine_eq]; simp; omega, ?_⟩
      have e1 : ((ls.length : Int) - 1) = ((ls.length - 1 : Nat) : Int) := by omega
      refine hK _ _ ⟨cs ++ [⟨c, ls.length - 1, [l]⟩], some x, some (letC c), o10, o11, ?_, by simp [hlen], ⟨ok2 _ ⟨c1, c2, by simp, by show ls.length - 1 + 1 ≤ _; omega, fun y hy => ?_⟩, nd2 _ rfl, fun _ y hy => ?_⟩, ?_, ((sb.trans sb2).trans sb3).put hA, (dq3.put hAp.1 hAp.2).le (by omega)⟩
      · rw [eu]; simp
      · rw [List.mem_singleton] at hy; subst hy; exact hl.ch
      · rcases List.mem_append.mp hy with hy | hy
        · exact hc.one rfl y hy
        · rw [List.mem_singleton] at hy; subst hy; exact ⟨rfl, l, rfl, hl.one, hl.ch⟩
      · rw [cup_same, e1]; simp
    | false =>
      simp
      rw [cLen_l ea2]
      simp
      refine sp_pick_a (by omega) (by omega) dq2 fun x3 G3 _ hx3 sb3 dq3 => ?_
      have hx3 := hx3 l1
      have ea3 := sb3 a _ ap ea2
      have eA3 := sb3 A _ hAp.1 eA2
      simp
      rw [cLen_l ea3]
      simp
      have e1 : ((ls.length : Int) - (1 + (x3 : Int)) + 1) = ((ls.length - x3 : Nat) : Int) := by omega
      rw [e1]
      refine sp_pick_a (by omega) (by omega) dq3 fun x4 G4 _ hx4 sb4 dq4 => ?_
      have hx4 := hx4 (by omega)
      have ea4 := sb4 a _ ap ea3
      have eA4 := sb4 A _ hAp.1 eA3
      simp [bty_l eA4]
      refine ⟨by omega, by omega, fun d hd => ?_⟩
      rw [show (1 + (x3 : Int)).toNat = x3 + 1 from by omega]
      have hdp := dq4.ne hd
      have hdA : A ≠ d := fun z => by subst z; rw [eA4] at hd; cases hd
      refine lcL_inv (fun i acc G' => ∃ ws : List (List Nat), acc = ws.map rowC ∧ ws.length = i ∧ (∀ l ∈ ws, Ch n 1 l) ∧ SubBut p G4 G' ∧ DrawQ G' p q (k + 1200 * cs.length + 3 + 100 * i)) _ (by rw [sizeLine_eq]; simp; omega) ?_ ?_ cup_same ⟨[], rfl, rfl, (fun l hl => by cases hl), SubBut.rfl'.put hd, (dq4.put hdp.1 hdp.2).le (by omega)⟩
      · rintro j y hy acc G5 eG hl5 ⟨ws, rfl, hw, hch, sb5, dq5⟩ K2 W2 hK2 hW2
        refine ⟨trivial, ?_⟩
        have hj : j < x3 + 1 := by
          have := (List.getElem?_eq_some_iff.mp hy).1
          simpa using this
        simp [cwipe]
        refine sp_change_a (by omega) (by omega) dq5 fun l G6 hl6 sb6 dq6 => ?_
        refine hK2 _ G6 (sb6 d _ hdp.1 eG) ⟨ws ++ [l], by simp, by simp [hw], fun z hz => ?_, (sb5.trans sb6).put hd, (dq6.put hdp.1 hdp.2).le (by omega)⟩
        rcases List.mem_append.mp hz with hz | hz
        · exact hch z hz
        · rw [List.mem_singleton] at hz; subst hz; exact hl6
      · rintro acc G5 eG ⟨ws, rfl, hw, hch, sb5, dq5⟩
        refine ⟨trivial, ?_⟩
        simp at hw dq5
        try simp
        rw [cTuple_l eG]
        have eA5 := sb5 A _ hAp.1 eA4
        refine ⟨by rw [sizeLine_eq]; decide, ?_⟩
        rw [kAppend_l eA5]
        refine ⟨by rw [sizeLine_eq]; simp; omega, ?_⟩
        refine hK _ _ ⟨cs ++ [⟨c, x4, ws⟩], some x, some (letC c), some (.a (.int (1 + (x3 : Int)))), some (nC x4), ?_, by simp [hlen], ⟨ok2 _ ⟨c1, c2, fun z => by have z : ws = [] := z; rw [z] at hw; simp at hw, by show x4 + ws.length ≤ _; omega, hch⟩, nd2 _ rfl, fun z => by cases z⟩, ?_, ((((sb.trans sb2).trans sb3).trans sb4).trans sb5).put hA, (dq5.put hAp.1 hAp.2).le (by omega)⟩
        · rw [eu]; simp
        · rw [cup_same]; simp
  · rintro τ G1 ⟨cs, o7, o9, o10, o11, rfl, hlen, hc, eA, sb, dq⟩
    refine ⟨trivial, ?_⟩
    simp at hlen dq
    obtain ⟨mok, few⟩ := world_ok hp hc (by omega)
    simp
    rw [cTuple_l (sb a _ ap ha), cTuple_l eA]
    refine ⟨by rw [sizeLine_eq]; decide, ?_⟩
    exact .of (h ⟨n, ls, cs⟩ G1 mok few (by show lst ≤ cs.length; omega) (by show cs.length ≤ 3; omega) (sb0.trans sb) (dq.le (by omega))) .rfl'
  · exact ⟨[], o7, none, none, none, rfl, rfl, ⟨(fun c hc => by cases hc), .nil, fun _ c hc => by cases hc⟩, hA1, hsb, hdq⟩
theorem sp_hunting_a {H : CH} {p q k n : Nat} {R : CVK} (h1 : 1 ≤ n) (hn : n ≤ 8) (hk : k ≤ 800000) (h : DrawQ H p q k) (hR : ∀ (ls : List (List Nat)) (a : Addr) (G' : CH), Hunt n ls → a ≠ p → G' a = some (.lst (ls.map rowC)) → SubBut p H G' → DrawQ G' p q (k + 2000) → R (.a (.ref a)) G') : sp__law_hunting [.a (.ref p), nC n] H R := ⟨n, q, k, rfl, h1, hn, hk, h, hR⟩
theorem p__law_world : ∀ cs G R, sp__law_world cs G R → T__law_world (endR R) (cstart 13 cs) G := by
  intro cs G R h
  unfold sp__law_world at h
  split at h
  · rename_i p i
    obtain ⟨lst, q, k, rfl, hlst, hk, hD, h⟩ := h
    unfold T__law_world
    simp [cstart]
    refine sp_pick_a (M := 6) (by omega) (by omega) hD fun kd G1 _ hkd sb1 dq1 => ?_
    have hkd := hkd (by omega)
    try simp
    refine ⟨by rw [sizeLine_eq]; decide, fun a1 ha1 => ?_⟩
    have hap1 := dq1.ne ha1
    rw [cIx_l cup_same]
    have hst : ∃ n : Nat, 3 ≤ n ∧ n ≤ 5 ∧ L2.atI [CV.a (.int 4), .a (.int 4), .a (.int 3), .a (.int 4), .a (.int 5), .a (.int 4)] (kd : Int) = some (nC n) ∧ (decide ((kd : Int) ∈ [(0 : Int), 4, 5]) = false → n ≤ 4) := by
      have : kd = 0 ∨ kd = 1 ∨ kd = 2 ∨ kd = 3 ∨ kd = 4 ∨ kd = 5 := by omega
      rcases this with rfl | rfl | rfl | rfl | rfl | rfl
      · exact ⟨4, by omega, by omega, rfl, fun _ => by omega⟩
      · exact ⟨4, by omega, by omega, rfl, fun _ => by omega⟩
      · exact ⟨3, by omega, by omega, rfl, fun _ => by omega⟩
      · exact ⟨4, by omega, by omega, rfl, fun _ => by omega⟩
      · exact ⟨5, by omega, by omega, rfl, fun h => by revert h; decide⟩
      · exact ⟨4, by omega, by omega, rfl, fun _ => by omega⟩
    obtain ⟨n, n3, n5, eat, hfew⟩ := hst
    rw [eat]
    have q1 : SubBut p G (cup G1 a1 (.lst [CV.a (.int 4), .a (.int 4), .a (.int 3), .a (.int 4), .a (.int 5), .a (.int 4)])) := sb1.trans (SubBut.rfl'.put ha1)
    have dq2 : DrawQ (cup G1 a1 (.lst [CV.a (.int 4), .a (.int 4), .a (.int 3), .a (.int 4), .a (.int 5), .a (.int 4)])) p q (k + 1) := dq1.put hap1.1 hap1.2
    generalize (cup G1 a1 (.lst [CV.a (.int 4), .a (.int 4), .a (.int 3), .a (.int 4), .a (.int 5), .a (.int 4)])) = G2 at q1 dq2 ⊢
    simp
    have q3 : [CV.a (.int 0), .a (.int 4), .a (.int 5)] = ([0, 4, 5] : List Int).map CV.int := rfl
    refine ⟨by rw [sizeLine_eq]; decide, ?_⟩
    rw [q3]
    refine InT_ints ?_
    have exr : xr false (decide ((kd : Int) ∈ [(0 : Int), 4, 5])) = decide ((kd : Int) ∈ [(0 : Int), 4, 5]) := rfl
    rw [exr]
    generalize hb : decide ((kd : Int) ∈ [(0 : Int), 4, 5]) = b at hfew ⊢
    -- the rest, by the plain lead
    have rest : ∀ (ls : List (List Nat)) (a : Addr) (G3 : CH) (o7 : Option CV), PlainOk b n ls → a ≠ p → G3 a = some (.lst (ls.map rowC)) → SubBut p G G3 → DrawQ G3 p q (k + 3000) →
        (cSeq (cSetN 5 (cLst cNil))
        (cSeq (cSetN 6 (cC (.str "")))
        (cSeq (cFor (ciRg1 (cCB cMax (cCons (cVar 1) (cCons (cOp (cIx []) (cLst (cCons (cC (.int 1)) (cCons (cC (.int 2)) (cCons (cC (.int 1)) (cCons (cC (.int 0)) (cCons (cC (.int 2)) (cCons (cC (.int 3)) cNil))))))) (cCall sp__law_pick [] (cCons (cVar 0) (cCons (cC (.int 6)) cNil)))) cNil)))) (cgName 7) T__law_world_L1)
        (cRet (cTup (cCons (cVar 3) (cCons (cCB cTuple (cCons (cVar 8) cNil)) (cCons (cCB cTuple (cCons (cVar 5) cNil)) cNil)))))))) (endR R) [some (.a (.ref p)), some (nC lst), some (nC kd), some (nC n), some (.a (.bl b)), none, none, o7, some (.a (.ref a)), none, none, none, none] G3 := by
      intro ls a G3 o7 hp ap ha sb dq
      simp
      intro A hA
      have hAp := dq.ne hA
      refine ⟨by rw [sizeLine_eq]; decide, fun a2 ha2 => ?_⟩
      have dqA : DrawQ (cup G3 A (.lst [])) p q (k + 3000) := dq.put hAp.1 hAp.2
      have hap2 := dqA.ne ha2
      refine sp_pick_a (M := 6) (by omega) (by omega) (dqA.put hap2.1 hap2.2) fun x G4 _ hx sb4 dq4 => ?_
      have hx := hx (by omega)
      rw [cIx_l (sb4 a2 _ hap2.1 cup_same)]
      have hst : ∃ m : Nat, m ≤ 3 ∧ L2.atI [CV.a (.int 1), .a (.int 2), .a (.int 1), .a (.int 0), .a (.int 2), .a (.int 3)] (x : Int) = some (nC m) := by
        have : x = 0 ∨ x = 1 ∨ x = 2 ∨ x = 3 ∨ x = 4 ∨ x = 5 := by omega
        rcases this with rfl | rfl | rfl | rfl | rfl | rfl
        · exact ⟨1, by omega, rfl⟩
        · exact ⟨2, by omega, rfl⟩
        · exact ⟨1, by omega, rfl⟩
        · exact ⟨0, by omega, rfl⟩
        · exact ⟨2, by omega, rfl⟩
        · exact ⟨3, by omega, rfl⟩
      obtain ⟨m, m3, eat2⟩ := hst
      rw [eat2]
      have emx : (if (m : Int) > (lst : Int) then (m : Int) else (lst : Int)) = ((max lst m : Nat) : Int) := by
        split <;> omega
      have sA : SubBut p G3 G4 := ((SubBut.rfl'.put (o := .lst []) hA).trans (SubBut.rfl'.put ha2)).trans sb4
      have eA4 : G4 A = some (.lst []) := sb4 A _ hAp.1 (Sub.new ha2 _ _ cup_same)
      show cMax [.a (.int (lst : Int)), .a (.int (m : Int))] G4 _
      rw [cMax_ii, emx]
      refine ⟨_, rfl, by omega, by omega, ?_⟩
      rw [txt_nil, Int.toNat_natCast]
      exact world_calls (k := k + 3001) (lst := lst) (m := max lst m) hp ap ha (by omega) (dq.le (by omega)) sb (by omega) (by omega) (fun M G' h1 h2 h3 h4 h5 h6 => h M G' h1 h2 h3 h4 h5 (h6.le (by omega))) A G4 hA eA4 sA (dq4.le (by omega))
    cases b with
    | true =>
      simp
      refine sp_hunting_a (by omega) (by omega) (by omega) dq2 fun ls a G3 hu ap ha sb3 dq3 => ?_
      have hlen := hu.len
      have r := rest ls a G3 none ⟨n3, n5, by omega, by omega, hu.ch, fun _ => hu, fun z => by cases z⟩ ap ha (q1.trans sb3) (dq3.le (by omega))
      simpa using r
    | false =>
      simp
      refine sp_pick_a (M := 5) (by omega) (by omega) dq2 fun x G3 _ hx sb3 dq3 => ?_
      have hx := hx (by omega)
      simp
      refine ⟨by omega, by omega, fun d hd => ?_⟩
      rw [show (1 + (x : Int)).toNat = x + 1 from by omega]
      have hdp := dq3.ne hd
      refine lcL_inv (fun i acc G' => ∃ ws : List (List Nat), acc = ws.map rowC ∧ ws.length = i ∧ (∀ l ∈ ws, Ch n 1 l) ∧ SubBut p G3 G' ∧ DrawQ G' p q (k + 2 + 100 * i)) _ (by rw [sizeLine_eq]; simp; omega) ?_ ?_ cup_same ⟨[], rfl, rfl, (fun l hl => by cases hl), SubBut.rfl'.put hd, (dq3.put hdp.1 hdp.2)⟩
      · rintro j y hy acc G5 eG hl5 ⟨ws, rfl, hw, hch, sb5, dq5⟩ K2 W2 hK2 hW2
        refine ⟨trivial, ?_⟩
        have hj : j < x + 1 := by
          have := (List.getElem?_eq_some_iff.mp hy).1
          simpa using this
        simp [cwipe]
        refine sp_change_a (by omega) (by omega) dq5 fun l G6 hl6 sb6 dq6 => ?_
        refine hK2 _ G6 (sb6 d _ hdp.1 eG) ⟨ws ++ [l], by simp, by simp [hw], fun z hz => ?_, (sb5.trans sb6).put hd, (dq6.put hdp.1 hdp.2).le (by omega)⟩
        rcases List.mem_append.mp hz with hz | hz
        · exact hch z hz
        · rw [List.mem_singleton] at hz; subst hz; exact hl6
      · rintro acc G5 eG ⟨ws, rfl, hw, hch, sb5, dq5⟩
        refine ⟨trivial, ?_⟩
        simp at hw dq5
        have r := rest ws d G5 none ⟨n3, n5, by omega, by omega, hch, fun z => (by cases z), hfew⟩ hdp.1 eG ((q1.trans sb3).trans sb5) (dq5.le (by omega))
        simpa using r
  · exact h.elim
theorem leadRows_snoc1 {n : Nat} {l : List Nat} : ∀ {ls : List (List Nat)} {r : List Nat}, (leadRows n r (ls ++ [l])).1 = (leadRows n r ls).1 ++ [(leadRows n r ls).2]
  | [], r => rfl
  | x :: ls, r => by
    rw [List.cons_append]
    show r :: (leadRows n (timesR r (mvOf x n)) (ls ++ [l])).1 = _
    rw [leadRows_snoc1]
    rfl
theorem p__law_body_of : ∀ cs G R, sp__law_body_of cs G R → T__law_body_of (endR R) (cstart 5 cs) G := by
  intro cs G R h
  unfold sp__law_body_of at h
  split at h
  · rename_i w z
    obtain ⟨M, c, rfl, rfl, ok, hs, h⟩ := h
    have n8 := ok.n8
    obtain ⟨ls, el⟩ := Option.isSome_iff_exists.mp hs
    obtain ⟨hll, hch⟩ := ok.lead_ok el
    have l32 := ok.l32
    unfold T__law_body_of
    simp [cstart]
    refine cIx_lit (xs := [nC M.n, rowsC M.ls, callsC M.cs]) rfl ?_
    refine ⟨M.n, rfl, by omega, ?_⟩
    refine ⟨by rw [sizeLine_eq]; decide, fun a ha => ?_⟩
    refine ⟨M, c, rfl, rfl, ok, hs, ?_⟩
    rw [el]
    refine ⟨_, srcOf_tup, ?_⟩
    show forL _ _ _ _ (ls.map rowC) _ _
    refine forL_inv (fun i τ G' => ∃ (o4 : Option CV), τ = [some (worldC M), some (.a (.str (ltS c))), some (rowC (leadRows M.n (List.range' 1 M.n) (ls.take i)).2), some (.a (.ref a)), o4] ∧ Sub G G' ∧ G' a = some (.lst (((leadRows M.n (List.range' 1 M.n) (ls.take i)).1 ++ [(leadRows M.n (List.range' 1 M.n) (ls.take i)).2]).map rowC))) _ ?_ ?_ ?_
    · rintro i x hx τ G1 ⟨o4, rfl, sb, ea⟩ K B hK hB
      refine ⟨trivial, ?_⟩
      rw [List.getElem?_map] at hx
      obtain ⟨l, hl, rfl⟩ := Option.map_eq_some_iff.mp hx
      have hl : ls[i]? = some l := hl
      have hcl := hch l (List.mem_of_getElem? hl)
      have hi := (List.getElem?_eq_some_iff.mp hl).1
      have ht : ls.take (i + 1) = ls.take i ++ [l] := by rw [List.take_add_one, hl]; rfl
      have pr := leadEnd_perm (ls := ls.take i) (fun y hy => hch y (List.mem_of_mem_take hy)) (rounds_perm M.n)
      have pm := mv_perm hcl
      simp [T__law_body_of_L1, bty_l ea]
      refine cIx_lit (xs := [nC M.n, rowsC M.ls, callsC M.cs]) rfl ?_
      refine ⟨l, M.n, rfl, rfl, by omega, hcl, ?_⟩
      refine ⟨_, _, rfl, rfl, by rw [pm.len]; omega, pm.r100 pr, ?_⟩
      refine ⟨bty_l ea, ?_⟩
      rw [kAppend_l ea]
      refine ⟨by rw [sizeLine_eq]; simp [leadRows_len]; omega, ?_⟩
      refine hK _ _ ⟨some (rowC l), ?_, sb.put ha, ?_⟩
      · rw [ht, leadRows_snoc]
      · rw [cup_same, ht, leadRows_snoc, leadRows_snoc1]; simp
    · rintro τ G1 ⟨o4, rfl, sb, ea⟩
      refine ⟨trivial, ?_⟩
      rw [List.length_map, List.take_length] at ea
      simp
      refine .of (h a G1 sb ?_) .rfl'
      unfold Mth.rows Mth.move
      rw [el]
      exact ea
    · exact ⟨none, rfl, Sub.new ha, by rw [cup_same]; rfl⟩
  · exact h.elim
theorem p__law_moves : ∀ cs G R, sp__law_moves cs G R → T__law_moves (endR R) (cstart 3 cs) G := by
  intro cs G R h
  unfold sp__law_moves at h
  split at h
  · rename_i w
    obtain ⟨M, rfl, ok, h⟩ := h
    have c5 := ok.c5
    unfold T__law_moves
    simp [cstart]
    intro d hd
    refine ⟨M, rfl, ok, fun cs hcs => ?_⟩
    refine ⟨_, srcOf_str, ?_⟩
    rw [signs_txt]
    have hlen : cs.length = M.cs.length + 1 := by rw [hcs.length_eq]; simp
    have hmem := hcs.lead
    show forL _ _ _ _ (cs.map letC) _ _
    refine forL_inv (fun i τ G' => ∃ (o2 : Option CV) (k : List (NestedKey × CV)), τ = [some (worldC M), some (.a (.ref d)), o2] ∧ Sub G G' ∧ G' d = some (.dic false k) ∧ k.length ≤ i ∧ ∀ c ∈ cs.take i, dval k (.text (ltS c)) = some (rowC (M.move c))) _ ?_ ?_ ?_
    · rintro i x hx τ G1 ⟨o2, k, rfl, sb, ed, hk, hv⟩ K B hK hB
      refine ⟨trivial, ?_⟩
      rw [List.getElem?_map] at hx
      obtain ⟨c, hc, rfl⟩ := Option.map_eq_some_iff.mp hx
      have hi := (List.getElem?_eq_some_iff.mp hc).1
      have ht : cs.take (i + 1) = cs.take i ++ [c] := by rw [List.take_add_one, hc]; rfl
      have hs := (hmem c).mpr (List.mem_of_getElem? hc)
      simp [T__law_moves_L1]
      refine ⟨M, c, rfl, rfl, ok, hs, fun a G2 sb2 ea => ?_⟩
      show cIx [] _ _ _ _
      rw [cIx_l ea, List.map_append, List.map_cons, List.map_nil, atI_last]
      have ed2 := sb2 _ _ ed
      simp
      rw [cSet_dic ed2 keyOf_s rfl]
      refine ⟨by rw [sizeLine_eq]; omega, ?_⟩
      refine hK _ _ ⟨_, _, rfl, (sb.trans sb2).put hd, cup_same, Nat.le_trans (dput_len _ _ _) (by omega), fun y hy => ?_⟩
      rw [dval_dput]
      by_cases e : c = y
      · subst e
        rw [if_pos rfl]
      · rw [if_neg (fun z => e (by injection z with z; exact ltS_inj z))]
        rw [ht] at hy
        rcases List.mem_append.mp hy with hy | hy
        · exact hv y hy
        · rw [List.mem_singleton] at hy
          exact absurd hy.symm e
    · rintro τ G1 ⟨o2, k, rfl, sb, ed, hk, hv⟩
      refine ⟨trivial, ?_⟩
      rw [List.length_map, List.take_length] at hv
      simp
      refine .of (h d G1 sb ⟨k, ed, fun c hc => hv c ((hmem c).mp hc)⟩) .rfl'
    · exact ⟨none, [], rfl, Sub.new hd, cup_same, Nat.le_refl _, fun c hc => by cases hc⟩
  · exact h.elim
theorem LsAts.snoc {N : Addr → Prop} {G : CH} {d : Nat} {x : CV} {k : NestedKey} (h2 : LsAt N G d x k) : ∀ {xs : List CV} {ks : List NestedKey}, LsAts N G d xs ks → LsAts N G d (xs ++ [x]) (ks ++ [k])
  | _, _, .nil => .cons h2 .nil
  | _, _, .cons h t => .cons h (LsAts.snoc h2 t)
theorem DeepAts.get {G : CH} {d : Nat} : ∀ {xs : List CV} {ks : List NestedKey} {i : Nat} {x : CV}, DeepAts G d xs ks → xs[i]? = some x → ∃ k, ks[i]? = some k ∧ DeepAt G d x k
  | _, _, _, _, .nil, e => by simp at e
  | _, _, 0, x, .cons h t, e => by
    simp at e
    subst e
    exact ⟨_, rfl, h⟩
  | _, _, i + 1, x, .cons h t, e => by
    obtain ⟨k, h1, h2⟩ := DeepAts.get (i := i) t (by simpa using e)
    exact ⟨k, by simpa using h1, h2⟩
theorem bigKs_get : ∀ {ks : List NestedKey} {i : Nat} {k : NestedKey}, sp_deepN.bigKs ks = false → ks[i]? = some k → sp_deepN.bigK k = false
  | [], _, _, _, e => by simp at e
  | k :: ks, 0, x, h, e => by
    unfold sp_deepN.bigKs at h
    simp at e
    subst e
    exact (Bool.or_eq_false_iff.mp h).1
  | k :: ks, i + 1, x, h, e => by
    unfold sp_deepN.bigKs at h
    exact bigKs_get (i := i) (Bool.or_eq_false_iff.mp h).2 (by simpa using e)
theorem listed_loop {G : CH} {st : CH → Prop} {xs : List CV} {ks : List NestedKey} {m d : Nat} {τ : CSt} {R : CVK} (hd : d ≤ m) (ha : DeepAts G d xs ks) (hl : ks.length ≤ 1000) (hb : sp_deepN.bigKs ks = false) (hst : ∀ G', Sub G G' → st G') {D : Addr} (hD : G D = none) (hτ : 2 ≤ τ.length)
    (h : ∀ ys G', Sub G G' → G' D = some (.lst ys) → LsAts (fun p => G p = none) G' d ys ks → R (.a (.ref D)) G') : lcL (cgName 1) cYes (cCall (sp__law_listedN m) [] (cCons (cVar 1) cNil)) st [1] D τ R xs (cup G D (.lst [])) := by
  have hlen := ha.length
  refine lcL_inv (fun i acc G' => Sub G G' ∧ LsAts (fun p => G p = none ∧ p ≠ D) G' d acc (ks.take i)) _ (by rw [sizeLine_eq]; omega) ?_ ?_ cup_same ⟨Sub.new hD, by rw [List.take_zero]; exact .nil⟩
  · rintro i x hx acc G1 eG hl ⟨sb, hls⟩ K W hK hW
    refine ⟨hst _ sb, ?_⟩
    obtain ⟨k, hk, hx2⟩ := ha.get hx
    simp [cwipe]
    refine ⟨x, ?_, k, d, hd, hx2.mono sb, bigKs_get hb hk, fun y G2 sb2 hy => ?_⟩
    · rw [List.getElem?_set_self (by omega)]
    · have e2 := sb2 _ _ eG
      refine hK y G2 e2 ⟨(sb.trans sb2).put hD, ?_⟩
      rw [List.take_add_one, hk]
      refine LsAts.snoc (hy.mono (fun p hp => ⟨sb.none hp, fun z => by subst z; rw [eG] at hp; cases hp⟩) fun p o hp e => ?_) (hls.mono (fun p hp => hp) fun p o hp e => ?_)
      · have : p ≠ D := fun z => by subst z; rw [eG] at hp; cases hp
        rw [cup_ne this]
        exact e
      · rw [cup_ne hp.2]
        exact sb2 _ _ e
  · rintro acc G1 eG ⟨sb, hls⟩
    refine ⟨hst _ sb, h acc G1 sb eG ?_⟩
    rw [hlen, List.take_length] at hls
    exact hls.mono (fun p hp => hp.1) fun p o _ e => e
theorem p__law_listedN (rec : CSp) (n : Nat) (hrec : ∀ m, n = m + 1 → rec = sp__law_listedN m) : ∀ cs G R, sp__law_listedN n cs G R → T__law_listed rec (endR R) (cstart 2 cs) G := by
  intro cs G R h
  unfold sp__law_listedN at h
  split at h
  · rename_i x
    obtain ⟨k, d, hd, ha, hb, h⟩ := h
    unfold T__law_listed
    cases ha with
    | num i => simp [cstart, isT]; exact .of (h _ G .rfl' (.num i)) .rfl'
    | text z => simp [cstart, isT]; exact .of (h _ G .rfl' (.text z)) .rfl'
    | @tup d xs ks ha =>
      obtain ⟨m, rfl⟩ : ∃ m, n = m + 1 := ⟨n - 1, by omega⟩
      have er := hrec m rfl
      subst er
      unfold sp_deepN.bigK at hb
      obtain ⟨b1, b2⟩ := Bool.or_eq_false_iff.mp hb
      have b1 : ks.length ≤ 1000 := by simpa using b1
      simp [cstart, isT]
      intro D hD
      refine listed_loop (by omega) ha b1 b2 (fun _ _ => trivial) hD (Nat.le_refl _) fun ys G1 sb e1 hy => ?_
      exact .of (h _ G1 sb (.lst hD e1 hy)) .rfl'
    | @lst d p xs ks e ha =>
      obtain ⟨m, rfl⟩ : ∃ m, n = m + 1 := ⟨n - 1, by omega⟩
      have er := hrec m rfl
      subst er
      unfold sp_deepN.bigK at hb
      obtain ⟨b1, b2⟩ := Bool.or_eq_false_iff.mp hb
      have b1 : ks.length ≤ 1000 := by simpa using b1
      simp [cstart, isT, cTy_l e]
      refine ⟨_, srcOf_ref e, fun D hD => ?_⟩
      refine listed_loop (by omega) ha b1 b2 (fun G' s => ?_) hD (Nat.le_refl _) fun ys G1 sb e1 hy => ?_
      · exact seq_of (s _ _ e)
      · exact .of (h _ G1 sb (.lst hD e1 hy)) .rfl'
  · exact h.elim
theorem cIx_txt {us : List Nat} {x : Nat} {c : Nat} {G : CH} {R : CVK} (h : us[x]? = some c) (hl : us.length ≤ 1000) (hR : R (letC c) G) : cIx [] (.a (.str (txt us))) (nC x) G R := by
  unfold cIx
  refine ⟨by rw [sizeLine_eq]; show us.length ≤ _; omega, ?_⟩
  have : L2.atI (txt us).cps.toList (x : Int) = some c := atI_nat h
  rw [this]
  exact hR
/-- what a table's row holds -/
def PrOk (M : Mth) (m : Nat) (r : List (Nat × Nat)) : Prop := ∀ q ∈ r, (M.lead q.1).isSome = true ∧ q.2 < m
theorem p__law_table : ∀ cs G R, sp__law_table cs G R → T__law_table (endR R) (cstart 10 cs) G := by
  intro cs G R h
  unfold sp__law_table at h
  split at h
  · rename_i p i z
    obtain ⟨M, us, q, k, rfl, rfl, ok, hus, hk, hD, h⟩ := h
    have n8 := ok.n8
    have c5 := ok.c5
    have hlen : us.length = M.cs.length + 1 := by rw [hus.length_eq]; simp
    unfold T__law_table
    simp [cstart]
    refine sp_pick_a (M := 4) (by omega) (by omega) hD fun x1 G1 _ hx1 sb1 dq1 => ?_
    have hx1 := hx1 (by omega)
    simp
    refine sp_pick_a (M := 2) (by omega) (by omega) dq1 fun x2 G2 _ hx2 sb2 dq2 => ?_
    have hx2 := hx2 (by omega)
    intro T hT
    have hTp := dq2.ne hT
    refine ⟨by omega, by omega, ?_⟩
    have em : (1 + (x1 : Int)) = ((x1 + 1 : Nat) : Int) := by omega
    rw [em, Int.toNat_natCast]
    refine forL_inv (fun i τ G' => ∃ (t : Tb) (o6 o7 o8 o9 : Option CV), τ = [some (.a (.ref p)), some (nC M.n), some (.a (.str (txt us))), some (nC (x1 + 1)), some (nC x2), some (.a (.ref T)), o6, o7, o8, o9] ∧ t.length = i ∧ (∀ r ∈ t, r.length = M.n ∧ PrOk M (x1 + 1) r) ∧ G' T = some (.lst (t.map tbRowC)) ∧ SubBut p G2 G' ∧ DrawQ G' p q (k + 2 + 30 * i)) _ ?_ ?_ ?_
    · rintro i x hx τ G3 ⟨t, o6, o7, o8, o9, rfl, hti, ht, eT, sb3, dq3⟩ K B hK hB
      refine ⟨trivial, ?_⟩
      have hi : i < x1 + 1 := by
        have := (List.getElem?_eq_some_iff.mp hx).1
        simpa using this
      simp [T__law_table_L2]
      intro P hP
      have hPp := dq3.ne hP
      have hPT : T ≠ P := fun z => by subst z; rw [eT] at hP; cases hP
      refine ⟨by omega, ?_⟩
      refine forL_inv (fun j τ G' => ∃ (r : List (Nat × Nat)) (o8 o9 : Option CV), τ = [some (.a (.ref p)), some (nC M.n), some (.a (.str (txt us))), some (nC (x1 + 1)), some (nC x2), some (.a (.ref T)), some x, some (.a (.ref P)), o8, o9] ∧ r.length = j ∧ PrOk M (x1 + 1) r ∧ G' P = some (.lst (r.map pairC)) ∧ SubBut p G3 G' ∧ DrawQ G' p q (k + 2 + 30 * i + 3 * j)) _ ?_ ?_ ?_
      · rintro j y hy τ G4 ⟨r, o8, o9, rfl, hr, hpr, eP, sb4, dq4⟩ K2 B2 hK2 hB2
        refine ⟨trivial, ?_⟩
        have hj : j < M.n := by
          have := (List.getElem?_eq_some_iff.mp hy).1
          simpa using this
        simp [T__law_table_L1]
        refine ⟨by rw [sizeLine_eq]; show us.length ≤ _; omega, ?_⟩
        refine sp_pick_a (M := us.length) (by omega) (by omega) dq4 fun x3 G5 _ hx3 sb5 dq5 => ?_
        have hx3 := hx3 (by omega)
        refine cIx_txt (List.getElem?_eq_getElem hx3) (by omega) ?_
        have hs : (M.lead us[x3]).isSome = true := (hus.lead _).mpr (List.getElem_mem hx3)
        -- the letter is settled
        have fin : ∀ (c : Nat) (G6 : CH), (M.lead c).isSome = true → SubBut p G5 G6 → DrawQ G6 p q (k + 2 + 30 * i + 3 * j + 2) →
            bty G6 (.a (.ref P)) = some "list" ∧ sp__law_pick [.a (.ref p), nC (x1 + 1)] G6 fun c2 G7 => 2 ≤ sizeLine ∧ kAppend "list" (.a (.ref P)) [.tup [letC c, c2]] G7 fun _ G8 => K2 [some (.a (.ref p)), some (nC M.n), some (.a (.str (txt us))), some (nC (x1 + 1)), some (nC x2), some (.a (.ref T)), some x, some (.a (.ref P)), some y, some (letC c)] G8 := by
          intro c G6 hc sb6 dq6
          have eP6 := sb6 P _ hPp.1 (sb5 P _ hPp.1 eP)
          refine ⟨bty_l eP6, ?_⟩
          refine sp_pick_a (M := x1 + 1) (by omega) (by omega) dq6 fun x5 G7 _ hx5 sb7 dq7 => ?_
          have hx5 := hx5 (by omega)
          refine ⟨by rw [sizeLine_eq]; decide, ?_⟩
          rw [kAppend_l (sb7 P _ hPp.1 eP6)]
          refine ⟨by rw [sizeLine_eq]; simp; omega, ?_⟩
          refine hK2 _ _ ⟨r ++ [(c, x5)], _, _, rfl, by simp [hr], fun z hz => ?_, by rw [cup_same]; simp, (((sb4.trans sb5).trans sb6).trans sb7).put hP, (dq7.put hPp.1 hPp.2).le (by omega)⟩
          rcases List.mem_append.mp hz with hz | hz
          · exact hpr z hz
          · rw [List.mem_singleton] at hz; subst hz; exact ⟨hc, hx5⟩
        by_cases e1 : x2 = 1
        · refine .inr ⟨by omega, ?_⟩
          refine sp_pick_a (M := 2) (by omega) (by omega) dq5 fun x4 G6 _ hx4 sb6 dq6 => ?_
          rw [ceq_ii]
          by_cases e2 : x4 = 0
          · rw [decide_eq_true (by omega)]
            refine .inr ⟨rfl, ?_⟩
            rw [ltS_p]
            exact fin 112 G6 ((hus.lead 112).mpr (hus.mem_iff.mpr List.mem_cons_self)) sb6 (dq6.le (by omega))
          · rw [decide_eq_false (by omega)]
            exact .inl ⟨rfl, fin _ G6 hs sb6 (dq6.le (by omega))⟩
        · exact .inl ⟨by omega, fin _ G5 hs .rfl' (dq5.le (by omega))⟩
      · rintro τ G4 ⟨r, o8, o9, rfl, hr, hpr, eP, sb4, dq4⟩
        refine ⟨trivial, ?_⟩
        simp at hr
        have eT4 := sb4 T _ hTp.1 eT
        simp [bty_l eT4]
        rw [cTuple_l eP, kAppend_l eT4]
        refine ⟨by rw [sizeLine_eq]; simp; omega, ?_⟩
        simp at dq4
        refine hK _ _ ⟨t ++ [r], _, _, _, _, rfl, by simp [hti], fun z hz => ?_, by rw [cup_same]; simp, (sb3.trans sb4).put hT, (dq4.put hTp.1 hTp.2).le (by omega)⟩
        rcases List.mem_append.mp hz with hz | hz
        · exact ht z hz
        · rw [List.mem_singleton] at hz; subst hz; exact ⟨hr, hpr⟩
      · refine ⟨[], _, _, rfl, rfl, (fun z hz => by cases hz), cup_same, SubBut.rfl'.put hP, (dq3.put hPp.1 hPp.2)⟩
    · rintro τ G3 ⟨t, o6, o7, o8, o9, rfl, hti, ht, eT, sb3, dq3⟩
      refine ⟨trivial, ?_⟩
      simp at hti dq3
      simp
      rw [cTuple_l eT]
      refine .of (h t G3 ⟨by omega, by omega, fun r hr => (ht r hr).1, fun r hr q hq => by rw [hti]; exact (ht r hr).2 q hq⟩ ((sb1.trans sb2).trans sb3) (dq3.le (by omega))) .rfl'
    · exact ⟨[], none, none, none, none, rfl, rfl, (fun r hr => by cases hr), cup_same, SubBut.rfl'.put hT, (dq2.put hTp.1 hTp.2)⟩
  · exact h.elim
theorem cutS_to {us : List Nat} {k : Nat} (h : k ≤ us.length) : cutS (txt us) none (some (k : Int)) = txt (us.take k) := by
  unfold cutS
  have : (txt us).length = us.length := rfl
  rw [this, HT.sIx_none, HT.sIx_nat, Nat.min_eq_left h]
  rfl
theorem cutS_from {us : List Nat} {k : Nat} (h : k ≤ us.length) : cutS (txt us) (some (k : Int)) none = txt (us.drop k) := by
  unfold cutS
  have : (txt us).length = us.length := rfl
  rw [this, HT.sIx_none, HT.sIx_nat, Nat.min_eq_left h]
  show (⟨((us.drop k).take (us.length - k)).toArray⟩ : Str) = _
  rw [List.take_of_length_le (by simp)]
theorem bty_tup {G : CH} {xs : List CV} : bty G (.tup xs) = some "tuple" := rfl
theorem p__law_walk : ∀ cs G R, sp__law_walk cs G R → T__law_walk (endR R) (cstart 11 cs) G := by
  intro cs G R h
  unfold sp__law_walk at h
  split at h
  · rename_i d x b y
    obtain ⟨C, first, f, o, rfl, rfl, rfl, ok, pf, hf, hgo, hmv, h⟩ := h
    have n8 := ok.m.n8
    have l4 := ok.t.l4
    have l1 := ok.t.l1
    unfold T__law_walk
    simp [cstart]
    intro a ha
    rw [txt_nil]
    -- before a turn: done, or a walk still to go on
    refine forL_inv (fun i τ G' => ∃ (met : List (Nat × List Nat)) (cal : List Nat) (m : Nat) (r : List Nat) (o8 o9 o10 : Option CV) (f' : Nat), τ = [some (.a (.ref d)), some (tbC C.t), some (nC C.bell), some (rowC first), some (rowC r), some (nC m), some (.a (.str (txt cal))), some (.a (.ref a)), o8, o9, o10] ∧
        G' = cup G a (.dic true (metG stK met 0)) ∧ met.length = cal.length ∧ cal.length = i ∧ m < C.t.length ∧ Perm C.M.n r ∧ f' + i ≤ 401 ∧
        ((m, r) ∈ met ∧ o = .lop (cal.take (posIn (m, r) met)) (cal.drop (posIn (m, r) met)) ∨ (m, r) ∉ met ∧ C.go first f' (met ++ [(m, r)]) cal m r = some o)) _ ?_ ?_ ?_
    · rintro i x hx τ G1 ⟨met, cal, m, r, o8, o9, o10, f', rfl, rfl, hml, hci, hm, pr, hfi, hI⟩ K B hK hB
      refine ⟨trivial, ?_⟩
      simp [T__law_walk_L1]
      refine ⟨by rw [sizeLine_eq]; decide, ?_⟩
      rw [InT_dic cup_same (keyOf_st m r) (okK_st _)]
      rcases hI with ⟨hmem, ho⟩ | ⟨hmem, hg⟩
      · have hpos := posIn_lt hmem
        rw [metG_get stK_inj hmem]
        refine .inr ⟨rfl, by rw [sizeLine_eq]; decide, ?_⟩
        rw [cIx_dic cup_same (keyOf_st m r) (okK_st _), metG_get stK_inj hmem, Nat.zero_add]
        refine ⟨_, rfl, _, rfl, by rw [sizeLine_eq]; show cal.length ≤ _; omega, ?_⟩
        refine ⟨_, rfl, by rw [sizeLine_eq]; show cal.length ≤ _; omega, by rw [sizeLine_eq]; decide, ?_⟩
        rw [cutS_to (by omega), cutS_from (by omega)]
        rw [ho] at h
        exact .of h (Sub.new ha)
      · have hnone : dval (metG stK met 0) (stK (m, r)) = none := dval_out (metG_out stK_inj hmem)
        rw [hnone]
        obtain ⟨row, e1, e2, s3, s4, e3⟩ := C.cell_ok ok hm pr
        refine .inl ⟨rfl, by rw [sizeLine_eq]; show cal.length ≤ _; omega, by rw [sizeLine_eq]; decide, ?_⟩
        rw [cSet_dic cup_same (keyOf_st m r) (okK_st _)]
        refine ⟨by rw [metG_len, sizeLine_eq]; omega, ?_⟩
        have eput : dput (metG stK met 0) (stK (m, r)) (.a (.int ((txt cal).length : Nat))) = metG stK (met ++ [(m, r)]) 0 := by
          rw [dput_out (metG_out stK_inj hmem), metG_app, hml]
          rfl
        rw [eput, cup_cup]
        refine cIx_at (c := tbRowC row) (by rw [List.getElem?_map, e1]; rfl) ?_
        unfold kIndex
        refine ⟨rfl, _, _, row_atoms r, ixAt_row e3 pr.nd, ?_⟩
        refine cIx_at (c := pairC (C.cell m r)) (by rw [List.getElem?_map, e2]; rfl) ?_
        obtain ⟨k, hk, hv⟩ := hmv
        have nda : d ≠ a := fun z => by subst z; rw [hk] at ha; cases ha
        have pm := ok.m.move_perm (C.cell m r).1
        obtain ⟨f2, rfl⟩ : ∃ g, f' = g + 1 := by
          cases f' with
          | zero => cases hg
          | succ g => exact ⟨g, rfl⟩
        unfold Con.go at hg
        have est : C.step m r = ((C.cell m r).1, (C.cell m r).2, timesR r (C.M.move (C.cell m r).1)) := rfl
        rw [est] at hg
        have pr2 := times_perm pr pm
        generalize C.cell m r = q at hg s3 s4 pm pr2
        obtain ⟨l, m2⟩ := q
        simp only at hg s3 s4 pm pr2
        simp
        refine ⟨by rw [sizeLine_eq]; show cal.length + 1 ≤ _; omega, ?_⟩
        rw [cIx_dic (by rw [cup_ne nda]; exact hk) keyOf_s rfl, hv l s3]
        refine ⟨_, rfl, ?_⟩
        refine ⟨r, C.M.move l, rfl, rfl, by rw [pm.len]; omega, pm.r100 pr, ?_⟩
        have et : txt cal ++ ltS l = txt (cal ++ [l]) := txt_snoc _ _
        rw [et]
        refine ceq_row ?_
        by_cases h1 : timesR r (C.M.move l) = first
        · rw [if_pos h1] at hg
          cases hg
          rw [decide_eq_true h1]
          refine .inr ⟨rfl, by rw [sizeLine_eq]; decide, ?_⟩
          exact .of h (Sub.new ha)
        · rw [if_neg h1] at hg
          rw [decide_eq_false h1]
          refine .inl ⟨rfl, ?_⟩
          by_cases h2 : (m2, timesR r (C.M.move l)) ∈ met ++ [(m, r)]
          · rw [if_pos h2] at hg
            cases hg
            exact hK _ _ ⟨met ++ [(m, r)], cal ++ [l], m2, _, _, _, _, f2, rfl, rfl, by simp [hml], by simp [hci], s4, pr2, by omega, .inl ⟨h2, rfl⟩⟩
          · rw [if_neg h2] at hg
            exact hK _ _ ⟨met ++ [(m, r)], cal ++ [l], m2, _, _, _, _, f2, rfl, rfl, by simp [hml], by simp [hci], s4, pr2, by omega, .inr ⟨h2, hg⟩⟩
    · rintro τ G1 ⟨met, cal, m, r, o8, o9, o10, f', rfl, rfl, hml, hci, hm, pr, hfi, hI⟩
      refine ⟨trivial, ?_⟩
      simp at hci hfi
    · refine ⟨[], [], 0, first, none, none, none, f, rfl, rfl, rfl, rfl, by omega, pf, by omega, .inr ⟨by simp, hgo⟩⟩
  · exact h.elim
def ItTO (p it : Addr) : HO := .ext fun h => h.IsTupleIter it p 0
theorem itTO_ok {P : Program} {w : World} {H : Hp} {h : Heap} {p it : Addr} (e : h.IsTupleIter it p 0) : ObjOk P w H h it (ItTO p it) :=
  ⟨e, by obtain ⟨o, e, _⟩ := e; exact ⟨o, e⟩, fun h1 h2 q k => q.at fun o e => k o e⟩
/-- iter(e), e a tuple -/
def tIter (m : Pm) (n : Nat) (T : CTE) : TE := fun σ H Q => ∃ τ G R, At0 m σ H τ G ∧ T τ G R ∧ ∀ c H1 G1, R c G1 → ∃ xs, c = .tup xs ∧ ∀ p vs it, RelH m H1 G1 → TupSub m.K H H1 → SqF m.K H1 p vs → Reps m.K H1 vs xs → H1 it = none → n ≤ it → Q (.ref it) (upd H1 it (ItTO p it))
section
variable {X : Cx} {N : Nm} {e : Expr} {T : CTE} {pos p2 : Pos}
theorem run_iter {prog : Program} {w : World} {A : Around} {E : Value → Shared → Prop} {s : Shared} {p : Addr} {items : Array Value} {Q : Value → Shared → Prop} (hp : s.heap.IsTuple p items)
    (h : ∀ s' : Shared, s' = { s with heap := s.heap.push { cls := .type "tuple_iterator", data := .fields #[.ref p, .int 0 0] } } → Q (.ref s.heap.objs.size) s') : wpAny (model prog w) A (call (.builtin "iter") [.ref p]) Q E s := by
  refine Calls.call_function_entry (by decide +kernel)
    (by decide +kernel) PySem.W.kdk_entry_iter (PySem.W.kdk_args_iter _) ?_
  unfold Builtin.«iter»
  refine wpAny_bind (m := someArgs "iter" 1 2 _) (wpAny_of_eq (a := [Value.ref p])
    (by first | rfl | kernel_rfl!) ?_)
  show wpAny _ _ (pyIter (.ref p) >>= _) _ _ _
  refine wpAny_bind (wpAny_pyIter_tuple hp ?_)
  exact wpAny_pure ⟨_, rfl, h _ rfl⟩
theorem pe_iter (hm : X.mg "iter" = none) (ha : PE X e (lE (pm X N) T)) (hg : Gl X "iter" := by rfl) (hs : starEach [e] X.env = [(false, eval e X.env)] := by rfl) (hs2 : starEach [e] X.env = (false, eval e X.env) :: starEach [] X.env := by rfl) :
    PE X (.Call (.Name "iter" p2) [e] [] pos) (tIter (pm X N) X.s_0.heap.objs.size T) := by
  refine ⟨fun pins s σ H Q I hh => ?_⟩
  obtain ⟨τ, G, R, at0, h, fin⟩ := hh
  refine wpAny_Call_Name_kw (ld_blt (u := .builtin "iter") I hg hm (by first | rfl | decide +kernel) ?_ (by decide) (by decide))
  have ha1 : PA X [e] (lA (pm X N) (cCons T cNil)) := ca_cons ha ca_nil hs2
  refine PyProof.Rows.callWith_builtin1 (thn (PA.go ha1 pos I at0 (R := fun cs G1 => match cs with
    | [c] => R c G1
    | _ => False) h) fun us s1 ⟨vs, cs, H1, G1, I1, r, rvs, g1, t1, h1⟩ => ?_) hs rfl
  split at h1
  · rename_i c
    obtain ⟨v, rfl, rp⟩ := rvs.one
    obtain ⟨u, rfl, rv⟩ := vals1 r
    obtain ⟨xs, rfl, fin⟩ := fin _ H1 _ h1
    cases rp with
    | @tup p vs _ k1 k2 =>
      cases rv
      obtain ⟨its, rv, pt, hz⟩ := I1.tuple k1.sq
      refine run_iter (show s1.heap.IsTuple p its.toArray from pt) fun s' es => ?_
      subst es
      have st : (s1.heap.push { cls := .type "tuple_iterator", data := .fields #[.ref p, .int 0 0] }).IsTupleIter s1.heap.objs.size p 0 := ⟨_, Heap.get?_push_size _ rfl, rfl, rfl⟩
      exact ⟨.ref s1.heap.objs.size, _, I1.laid (t' := s1.toks) (fun b u e => Heap.get?_push_of_some _ e) (Nat.le_refl _) (itTO_ok st), rfl, fin p vs _ g1 t1 k1 k2 (I1.hok.fresh (Nat.le_refl _)) I1.sz⟩
  · exact h1.elim
end
def ItRun (Γ : Gam) (N : Nm) (k : Nat) (f : Addr) (c fld : Nat) : Prop := ∀ (A : Around) (outer : List Env) (s : Shared) (H : Hp) (G : CH) (a : Addr) (fs : List (Nat × CV)) (xs : List CV) (Q : VK) (E : XK), Room k A → Env0 Γ.P Γ.w Γ.K Γ.mg Γ.base A outer s H →
  RelH ⟨Γ.P, Γ.w, Γ.K, N⟩ H G → G a = some (.ins c fs) → fs.lookup fld = some (.tup xs) →
  (∀ H1 p vs it, RelH ⟨Γ.P, Γ.w, Γ.K, N⟩ H1 G → TupSub Γ.K H H1 → SqF Γ.K H1 p vs → Reps Γ.K H1 vs xs → H1 it = none → s.heap.objs.size ≤ it → Q (.ref it) (upd H1 it (ItTO p it))) →
  codeAny (model Γ.P Γ.w) A (.call (.ref f) ⟨[.ref a], []⟩) (CR CX0 outer Γ.P Γ.w H s Q E) s
theorem itRun_of {Γ : Gam} {N : Nm} {NL ps : List Str} {k c fld : Nat} {f : Addr} {fd : FuncData} {name qual : Str} {params : Arguments} {body : List Stmt} {scope : Scope} {dvs : List V} (F : FunD Γ.K name qual params body scope dvs [] f fd) (S : FnScope NL ps scope) (hps : ps.length = 1)
    (hbind : Binds Γ.K fd ps [])
    (hb : ∀ (cdv : Value) (A : Around) (outer : List Env) (s : Shared) (H : Hp) (E : XK), Room k (A.deeper (envOfC qual scope s.heap.objs.size f cdv)) →
      PSs (cxOf CX0 Γ.P Γ.w Γ.K Γ.mg Γ.base NL qual scope f cdv A outer s H E) body (tRet (tIter ⟨Γ.P, Γ.w, Γ.K, N⟩ s.heap.objs.size (cAttr fld [] (cVar 0)))))
    : ItRun Γ N (k + 1) f c fld := by
  intro A outer s H G a fs xs Q E room e0 g hG hl hQ
  obtain ⟨oc, od, dV, kV, doc, pm', an, cdv, ct, osl, rfl, look, code, _, _⟩ := F.ex
  have inK : Γ.K.In s.heap := e0.mod.kin.keeps fun b o e => (e0.bs b o e).1
  have nolim : s.heap.NoLimit := e0.mod.nolimit.keeps fun b o e => (e0.bs b o e).1
  have hlen : ([Value.ref a] ++ []).length = ps.length := by rw [hps]; rfl
  have bt := hbind s [Value.ref a] inK (by simpa using hlen)
  have rel1 : Vals [V.ref a] [Value.ref a] := .cons rfl .nil
  have kinds : ∀ y ∈ ps.zip [Value.ref a], scope.names.lookup y.1 = some .local ∨ (scope.names.lookup y.1 = some .cell ∧ ((cellsFrom (s.heap.objs.size + 1) scope.names []).lookup y.1).isSome = true) := by
    rintro ⟨n, v⟩ hy
    rcases S.par n (List.of_mem_zip hy).1 with z | z
    · exact Or.inl z
    · exact Or.inr ⟨z, PySem.W.cellsFrom_some _ _ _ (Or.inl z)⟩
  have start : ∀ s1, InCallC s s.heap.objs.size (bindL (envOfC qual scope s.heap.objs.size f cdv).kindOf (ps.zip [Value.ref a]) fun _ => none) (cellsFrom (s.heap.objs.size + 1) scope.names []) (bindC (envOfC qual scope s.heap.objs.size f cdv).kindOf (ps.zip [Value.ref a]) fun _ => none) s1 →
      wpAny (model Γ.P Γ.w) (A.deeper (envOfC qual scope s.heap.objs.size f cdv)) (execs body (envOfC qual scope s.heap.objs.size f cdv)) (fun fl s' => ∃ u, fl = .ret u ∧ CE outer Γ.P Γ.w H s Q u s') (cxOf CX0 Γ.P Γ.w Γ.K Γ.mg Γ.base NL qual scope f cdv A outer s H E).xe s1 := by
    intro s1 x
    have I : Inv (cxOf CX0 Γ.P Γ.w Γ.K Γ.mg Γ.base NL qual scope f cdv A outer s H E) [] (L2.start NL [.ref a]) H s1 := inv_start S room.hd e0 (by rw [hps]; rfl) rel1 x
    have rs : RelS Γ.K H (L2.start NL [.ref a]) (cstart NL.length [.a (.ref a)]) := relS_start (.cons (.a _) .nil)
    have body' := hb cdv A outer s H E (room.deeper _)
    refine wpAny_mono (body'.run [] s1 _ H { nx := fun _ _ => False, rt := Q } I ⟨_, G, fun c' G1 => c' = .tup xs ∧ G1 = G, ⟨rs, g⟩, ?_, ?_⟩) (fun fl s' hs => ?_) fun e s' hs => hs
    · refine ⟨.a (.ref a), rfl, a, c, fs, rfl, hG, ?_⟩
      rw [hl]
      exact ⟨rfl, rfl⟩
    · rintro c' H1 G1 ⟨rfl, rfl⟩
      exact ⟨xs, rfl, fun p vs it g1 t1 k1 k2 h0 hn => hQ H1 p vs it g1 t1 k1 k2 h0 hn⟩
    · cases fl with
      | ret u =>
        obtain ⟨v, σ', H', J, rv, q⟩ := hs
        exact ⟨u, rfl, v, H', J.os, J.bare, J.base, J.hok, rv, q⟩
      | next => obtain ⟨_, _, _, q⟩ := hs; exact q.elim
      | brk => obtain ⟨_, _, _, q⟩ := hs; exact q.elim
      | cont => obtain ⟨_, _, _, q⟩ := hs; exact q.elim
  refine codeAny_call_function room.depth (inK _ _ look) rfl S.co S.gen rfl
    (PySem.W.codeRec_of inK code) (bt _ _ _ _ ?_)
  refine wpAny_newFunctionEnv_cells S.kind (by simpa using kinds) fun env eenv s1 x => ?_
  subst eenv
  refine ⟨nolim.keeps x.toInCall.keep, codeAny_func ?_⟩
  refine wpAny_mono (start s1 x) (fun fl s' hs => ?_) fun e s' hs => hs
  obtain ⟨u, rfl, ce⟩ := hs
  exact ce
/-- a class of such instances -/
def IterN (Γ : Gam) (N : Nm) (c fld k : Nat) : Prop := ∃ f, Meth Γ.K (He.ga Γ.K (N.cn c)) "__iter__" f ∧ ItRun Γ N k f c fld
abbrev ITab := List (Nat × Nat)
def ITabOk (Γ : Gam) (N : Nm) (kk : Nat) (t : ITab) : Prop := ∀ c fld, t.lookup c = some fld → ∃ k, k ≤ kk ∧ IterN Γ N c fld k
theorem ITabOk.nil {Γ : Gam} {N : Nm} {kk : Nat} : ITabOk Γ N kk [] := fun c fld h => by cases h
theorem ITabOk.cons {Γ : Gam} {N : Nm} {kk k c fld : Nat} {t : ITab} (h : IterN Γ N c fld k) (r : ITabOk Γ N kk t) (hk : k ≤ kk := by first | decide | omega) : ITabOk Γ N kk ((c, fld) :: t) := fun d g e => by
  rw [List.lookup_cons] at e
  by_cases z : d = c
  · subst z
    simp at e
    subst e
    exact ⟨k, hk, h⟩
  · have : (d == c) = false := by simpa using z
    rw [this] at e
    exact r d g e
/-- what such an instance is walked as -/
def ownIt (tab : ITab) (G : CH) (v : CV) (xs : List CV) : Prop := ∃ p c fs fld, v = .a (.ref p) ∧ G p = some (.ins c fs) ∧ tab.lookup c = some fld ∧ fs.lookup fld = some (.tup xs)
def ciOwn (tab : ITab) (T : CTE) : CTI := fun τ G R => T τ G fun v G1 => ∃ xs, ownIt tab G1 v xs ∧ R (sVal xs) G1
section
variable {X : Cx} {N : Nm} {pins : List (Addr × Obj)} {σ : L2.St} {H : Hp} {s : Shared} {G : CH} {A1 : Around}
/-- the iterator has come -/
structure Come (X : Cx) (N : Nm) (pins : List (Addr × Obj)) (σ : L2.St) (H : Hp) (G : CH) (xs : List CV) (p it : Addr) (H1 : Hp) (s' : Shared) : Prop where
  inv : Inv X pins σ H1 s'
  rel : RelH (pm X N) H1 G
  sub : TupSub X.K H H1
  seq : ∃ vs, SqF X.K H1 p vs ∧ Reps X.K H1 vs xs
  st : s'.heap.IsTupleIter it p 0
  fp : FpOk X pins H1 it
theorem own_come {tab : ITab} {kk : Nat} {a : Addr} {xs : List CV} {Q : Value → Shared → Prop} {E : Value → Shared → Prop} (hI : ITabOk (gam X) N kk tab) (hr : Room kk A1) (hfr : A1.frames = X.A.frames) (I : Inv X pins σ H s) (g : RelH (pm X N) H G) (ho : ownIt tab G (.a (.ref a)) xs)
    (hQ : ∀ p it H1 s', Come X N pins σ H G xs p it H1 s' → Q (.ref it) s') : wpAny (model X.prog X.w) A1 (pyIter (.ref a)) Q E s := by
  obtain ⟨p0, c, fs, fld, e0, hG, hl, hf⟩ := ho
  cases e0
  obtain ⟨k, hk, f, me, run⟩ := hI c fld hl
  obtain ⟨dx, vs, hH, cl, fc⟩ := g _ _ hG
  obtain ⟨od, J⟩ := inst_of I hH
  obtain ⟨m0, hF⟩ := I.fr
  refine PySem.W.owit_iter hF I.ok.mod.kin J me.at_ me.fn ?_
  have env : Env0 X.prog X.w X.K X.mg X.base A1 X.stack s H := by
    have e := I.env0
    exact ⟨by rw [hfr]; exact e.frames, e.mod, e.bs, e.bsz, e.funs, e.frf, e.hok, e.bare⟩
  refine wpAny_call (codeAny_mono (run A1 X.stack s H G a fs xs (fun v H' => ∃ H1 p it vs, v = .ref it ∧ H' = upd H1 it (ItTO p it) ∧ RelH (pm X N) H1 G ∧ TupSub X.K H H1 ∧ SqF X.K H1 p vs ∧ Reps X.K H1 vs xs ∧ H1 it = none ∧ s.heap.objs.size ≤ it) E0 (hr.mono hk) env g hG hf
    (fun H1 p vs it g1 t1 k1 k2 h0 hn => ⟨H1, p, it, vs, rfl, rfl, g1, t1, k1, k2, h0, hn⟩)) fun r s' hq => ?_)
  cases r with
  | error e => exact hq.elim
  | ok fl =>
    cases fl with
    | next => exact hq.elim
    | brk => exact hq.elim
    | cont => exact hq.elim
    | ret u =>
      obtain ⟨v, H', I', rv, H1, p, it, ws, ev, eH, g1, t1, k1, k2, h0, hn⟩ := I.after hq
      subst ev
      subst eH
      cases rv
      have same : upd H1 it (ItTO p it) it = some (ItTO p it) := upd_same
      have st : s'.heap.IsTupleIter it p 0 := (I'.hok it _ same).1
      have d := ItX.inv_drop I' same
      have fp := ItX.inv_fp I' same (Nat.le_trans I.sz hn)
      rw [ItX.dropH_upd h0] at d fp
      unfold PySem.W.OwitIt
      exact wpAny_specialOf st.typeIs slot_tupleiter_next.lookup (hQ p it H1 s' ⟨d, g1, t1, ⟨ws, k1, k2⟩, st, fp⟩)
theorem ci_own {tab : ITab} {kk kr : Nat} {tg e : Expr} {Ta : CTE} (hI : ITabOk (gam X) N kk tab) (hr : Room kr X.A) (ha : PE X e (lE (pm X N) Ta)) (hk : kk ≤ kr := by first | decide | omega) : PI X tg e (lI (pm X N) false (ciOwn tab Ta)) := by
  refine ⟨fun pins s σ H R I hh => ?_⟩
  obtain ⟨τ, G, Rc, at0, h, fin⟩ := hh
  refine thn (PE.go ha I at0 h) fun u s1 ⟨v, c, H1, G1, I1, rv, rp, g1, t1, xs, ho, h1⟩ => ?_
  have ho2 := ho
  obtain ⟨a, _, _, _, ev, _⟩ := ho2
  subst ev
  cases rp
  cases rv
  refine own_come hI (hr.mono hk) rfl I1 g1 ho fun p it H2 s2 C => ?_
  obtain ⟨vs, k1, k2⟩ := C.seq
  exact ⟨it, [it], _, _, H2, rfl, C.inv, turn_tuple p it, C.st, fun b hb => by rw [List.mem_singleton.mp hb]; exact C.fp, fin _ _ _ _ h1 C.rel (t1.trans C.sub) (src_tup k1 k2)⟩
end
def spLenF (c fld : Nat) : CSp := fun cs G R => match cs with
  | [.a (.ref p)] => ∃ fs xs, G p = some (.ins c fs) ∧ fs.lookup fld = some (.tup xs) ∧ R (.a (.int xs.length)) G
  | _ => False
def LenN (Γ : Gam) (N : Nm) (c fld k : Nat) : Prop := MeN Γ N c "__len__" k (spLenF c fld) [] 1
def LTabOk (Γ : Gam) (N : Nm) (kk : Nat) (t : ITab) : Prop := ∀ c fld, t.lookup c = some fld → ∃ k, k ≤ kk ∧ LenN Γ N c fld k
theorem LTabOk.nil {Γ : Gam} {N : Nm} {kk : Nat} : LTabOk Γ N kk [] := fun c fld h => by cases h
theorem LTabOk.cons {Γ : Gam} {N : Nm} {kk k c fld : Nat} {t : ITab} (h : LenN Γ N c fld k) (r : LTabOk Γ N kk t) (hk : k ≤ kk := by first | decide | omega) : LTabOk Γ N kk ((c, fld) :: t) := fun d g e => by
  rw [List.lookup_cons] at e
  by_cases z : d = c
  · subst z
    simp at e
    subst e
    exact ⟨k, hk, h⟩
  · have : (d == c) = false := by simpa using z
    rw [this] at e
    exact r d g e
section
variable {X : Cx} {N : Nm} {pins : List (Addr × Obj)} {σ : L2.St} {H : Hp} {s : Shared} {G : CH} {A1 : Around}
/-- the length is asked for; the iterator stays -/
theorem own_len {tab : ITab} {kk : Nat} {a p it : Addr} {xs : List CV} {Q : Bool → Shared → Prop} {E : Value → Shared → Prop} (hL : LTabOk (gam X) N kk tab) (hr : Room kk A1.in1) (hfr : A1.in1.frames = X.A.frames) (I : Inv X pins σ H s) (g : RelH (pm X N) H G) (ho : ownIt tab G (.a (.ref a)) xs) (hx : xs.length ≤ sizeLine)
    (st : s.heap.IsTupleIter it p 0) (fp : FpOk X pins H it)
    (hQ : ∀ b H2 s', Inv X pins σ H2 s' → RelH (pm X N) H2 G → TupSub X.K H H2 → s'.heap.IsTupleIter it p 0 → FpOk X pins H2 it → Q b s') : wpAny (model X.prog X.w) A1 (Builtin.List.listLengthHint (.ref a)) Q E s := by
  obtain ⟨p0, c, fs, fld, e0, hG, hl, hf⟩ := ho
  cases e0
  obtain ⟨k, hk, f, me, fd, ps, dvs, dus, FN, har, hd, hdv, hb⟩ := hL c fld hl
  obtain ⟨dx, vs, hH, cl, fc⟩ := g _ _ hG
  obtain ⟨od, J⟩ := inst_of I hH
  obtain ⟨m0, hF⟩ := I.fr
  have env : Env0 X.prog X.w X.K X.mg X.base A1.in1 X.stack s H := by
    have e := I.env0
    exact ⟨by rw [hfr]; exact e.frames, e.mod, e.bs, e.bsz, e.funs, e.frf, e.hok, e.bare⟩
  unfold Builtin.List.listLengthHint
  refine wpAny_bind (wpAny_bind (J.type.here ((PySem.W.looks_findIn I.kIn me.at_).here ?_)))
  refine PySem.W.KFB.if_not rfl ?_
  show wpAny _ _ (rule "list.length-hint.len" >>= fun _ => ((call (.builtin "len") [.ref a]).attempt >>= _)) _ _ _
  refine wpAny_bind (wpAny_rule ?_)
  refine wpAny_bind (wpAny_attempt ?_)
  refine PySem.W.len_K hF I.ok.mod.kin J me.at_ me.fn ?_
  have el : dus = [] := by
    have h1 : Reps X.K H dvs [] := hd H
    cases h1
    cases hdv
    rfl
  subst el
  have hl1 : ([Value.ref a] ++ []).length = ps.length := by rw [har]; rfl
  have bt := hb s [Value.ref a] I.kIn hl1
  refine wpAny_call (codeAny_mono (FN.run A1.in1 X.stack s H ⟨[.ref a], []⟩ [.ref a] [.ref a] (fun v H2 => v = .int (xs.length : Nat) ∧ RelH (pm X N) H2 G ∧ TupSub X.K H H2) E0 (hr.mono hk) env bt (.cons rfl .nil)
    ⟨[.a (.ref a)], G, fun v G2 => v = .a (.int (xs.length : Nat)) ∧ G2 = G, .cons (.a _) .nil, g, ⟨fs, xs, hG, hf, rfl, rfl⟩, fun v cv H2 G2 hv rv g2 t2 => ?_⟩) fun r s' hq => ?_)
  · obtain ⟨rfl, rfl⟩ := hv
    exact ⟨rv.at_a, g2, t2⟩
  · cases r with
    | error e => exact hq.elim
    | ok fl =>
      cases fl with
      | next => exact hq.elim
      | brk => exact hq.elim
      | cont => exact hq.elim
      | ret u =>
        obtain ⟨v, H2, os, bare, un, hok, rv, q⟩ := id hq
        obtain ⟨ev, g2, t2⟩ := q
        subst ev
        have ce2 : CE X.stack X.prog X.w H s (fun v H' => H' = H2) u s' := ⟨_, H2, os, bare, un, hok, rv, rfl⟩
        obtain ⟨w2, H3, I3, _, rfl⟩ := I.after ce2
        obtain ⟨t, rfl⟩ := rv
        have nfr : it ∉ frs X.stack := fun z => (List.mem_cons.mp (I.stkSub it z)).elim fp.2.1 fp.2.2.1
        have st2 : s'.heap.IsTupleIter it p 0 := by
          obtain ⟨o, e, r⟩ := st
          exact ⟨o, un.keep it o e fp.1 nfr (by simp), r⟩
        have fp2 : FpOk X pins H3 it := by
          obtain ⟨o, e, r⟩ := st
          exact ⟨un.free it o e fp.1 (by simp), fp.2⟩
        have long : Builtin.List.listTooLong ((xs.length : Nat) : Int).toNat = false := by
          unfold Builtin.List.listTooLong
          simp
          exact hx
        refine ⟨⟨by omega, by have := sizeLine_eq; omega⟩, ?_⟩
        refine wpAny_bind (wpAny_pure ?_)
        show wpAny _ _ (if Builtin.List.listTooLong ((xs.length : Nat) : Int).toNat = true then _ else _) _ _ _
        rw [long]
        exact wpAny_pure (hQ _ H3 _ (I3.tok _) g2 t2 st2 fp2)
/-- the list at q is filled -/
theorem own_fill {p it q : Addr} {xs : List CV} {Rs : Result → Shared → Prop} (hc : X.calm = true) (hh : A1.in1.handled = none) (hx : xs.length ≤ sizeLine)
    (hdone : ∀ H2 s', Inv X pins σ H2 s' → RelH (pm X N) H2 (cup G q (.lst xs)) → TupSub X.K H H2 → Rs (.ok (.ret .none)) s') :
    ∀ (r i : Nat) (H1 : Hp) (s1 : Shared), i + r = xs.length → Inv X pins σ H1 s1 → RelH (pm X N) H1 (cup G q (.lst (xs.take i))) → TupSub X.K H H1 → (∃ vs, SqF X.K H1 p vs ∧ Reps X.K H1 vs xs) → s1.heap.IsTupleIter it p i → FpOk X pins H1 it →
      codeAny (model X.prog X.w) A1 (.builtin "list.extend.loop" ⟨[.ref q, .ref it, .none], []⟩) Rs s1 := by
  intro r
  induction r with
  | zero =>
    intro i H1 s1 hi I g t ⟨vs, k1, k2⟩ st fp
    have e : i = xs.length := by omega
    subst e
    refine codeAny_builtin PySem.F.entry_extend_loop ?_
    rw [Around.under_plainId
      PySem.F.plain_extend_loop _]
    show wpAny _ A1.in1 (pyNext (.ref it) >>= _) _ _ s1
    obtain ⟨its, rv, pt, hz⟩ := I.tuple k1.sq
    obtain ⟨f0, f1, f2, f3, f4, f5⟩ := fp
    refine wpAny_bind (wpAny_pyNext_tuple_end hh st (show s1.heap.IsTuple p its.toArray from pt) (by rw [List.getElem?_toArray, List.getElem?_eq_none]; rw [← rv.length, k2.length]; exact Nat.le_refl _) fun h' eb => ?_)
    have I2 : Inv X pins σ H1 { s1 with heap := h' } := I.turned (t' := s1.toks) (fun b o hb e => eb b o hb e) f0 f1 f3 f4 f5
    rw [List.take_length] at g
    exact wpAny_pure (hdone H1 _ I2 g t)
  | succ r ih =>
    intro i H1 s1 hi I g t ⟨vs, k1, k2⟩ st fp
    refine codeAny_builtin PySem.F.entry_extend_loop ?_
    rw [Around.under_plainId
      PySem.F.plain_extend_loop _]
    show wpAny _ A1.in1 (pyNext (.ref it) >>= _) _ _ s1
    obtain ⟨its, rv, pt, hz⟩ := I.tuple k1.sq
    have hlt : i < xs.length := by omega
    obtain ⟨v, ev, rc⟩ := k2.get (List.getElem?_eq_getElem hlt)
    obtain ⟨u, eu, ru⟩ := rv.get ev
    have fp0 := fp
    obtain ⟨f0, f1, f2, f3, f4, f5⟩ := fp
    refine wpAny_bind (wpAny_pyNext_tuple_item st (show s1.heap.IsTuple p its.toArray from pt) (x := u) (by simpa using eu) fun h' st' sb => ?_)
    have I2 : Inv X pins σ H1 { s1 with heap := h' } := I.turned (t' := s1.toks) (fun b o hb e => (sb.2 b hb).trans e) f0 f1 f3 f4 f5
    show wpAny _ A1.in1 (updateSeq q (·.push u) >>= _) _ _ _
    obtain ⟨acc, hq, ra⟩ := g q _ cup_same
    have hl : acc.length = i := by rw [ra.length, List.length_take]; omega
    obtain ⟨z, its2, k, r2, hl2, e⟩ := I2.lstM hq
    have nit : q ≠ it := fun z => by rw [z, f0] at hq; cases hq
    refine wpAny_bind (wpAny_updateSeq e rfl (wpAny_pure ⟨plainId_quiet PySem.F.plain_extend_loop _, ?_⟩) (by rw [List.size_toArray]; omega)
      (by show (its2.toArray.push u).size ≤ sizeLine + 1; rw [Array.size_push, List.size_toArray]; omega))
    have I3 := I2.lset (its' := its2 ++ [u]) (ys := acc ++ [v]) (t' := s1.toks) hq e (f := (·.push u)) (by simp) (r2.append (.cons ru .nil)) (by rw [List.length_append, List.length_singleton]; omega)
    have nt : NoTup (H1 q) := by rw [hq]; trivial
    have tp : TupSub X.K H1 (upd H1 q (.lst (acc ++ [v]))) := .put nt
    have et : xs.take (i + 1) = xs.take i ++ [xs[i]] := by rw [List.take_add_one, List.getElem?_eq_getElem hlt]; rfl
    refine ih (i + 1) _ _ (by omega) I3 ?_ (t.trans tp) ⟨vs, tp _ _ k1, k2.mono tp⟩ ?_ ⟨by rw [upd_ne (Ne.symm nit)]; exact f0, f1, f2, f3, f4, f5⟩
    · have := g.write (p := q) (o := .lst (acc ++ [v])) (co := .lst (xs.take (i + 1))) nt ⟨_, upd_same, by rw [et]; exact (ra.append (.cons rc .nil)).mono tp⟩
      rw [cup_cup] at this
      exact this
    · exact st'.at fun o e => (Heap.get?_update_other _ _ nit).trans e
/-- list(o) -/
def cListO (tab : ITab) : CL := fun cs G R => match cs with
  | [v] => ∃ xs, ownIt tab G v xs ∧ xs.length ≤ sizeLine ∧ ∀ q, G q = none → R (.a (.ref q)) (cup G q (.lst xs))
  | _ => False
theorem cc_listO {tab : ITab} {kk kr : Nat} (hc : X.calm = true) (hI : ITabOk (gam X) N kk tab) (hL : LTabOk (gam X) N kk tab) (hr : Room kr X.A) (hk : kk + 3 ≤ kr := by first | decide | omega) : CallR X (.type "list") (lL (pm X N) (cListO tab)) := by
  intro pins s σ H xs us Q I r hh
  obtain ⟨cs, G, R, hrs, g, h, fin⟩ := hh
  unfold cListO at h
  split at h
  · obtain ⟨v, rfl, rv⟩ := hrs.one
    obtain ⟨ys, ho, hy, h⟩ := h
    have ho2 := ho
    obtain ⟨a, c, fs, fld, ev, hG, _, _⟩ := ho2
    subst ev
    cases rv
    rw [Vals.ref1 r]
    have room3 : Room kk X.A.in1.in1.in1 := (hr.mono hk).in1.in1.in1
    have room2 : Room kk X.A.in1.in1 := (hr.mono (show kk + 2 ≤ kr by omega)).in1.in1
    refine callType_codes (Q₁ := fun obj s₁ => obj = .ref s.heap.objs.size ∧
        s₁ = { s with heap := s.heap.push { cls := .type "list", data := .seq #[] } })
      PySem.F.called_list (PySem.F.typeCall_list_1 _) PySem.F.entry_list_init
      (code_list_new _ ⟨rfl, rfl⟩) fun obj s₁ ⟨e1, e2⟩ => ?_
    subst e1
    subst e2
    have new : (s.heap.push { cls := .type "list", data := .seq #[] }).get? s.heap.objs.size = some { cls := .type "list", data := .seq #[] } := Heap.get?_push_size _ rfl
    refine ⟨⟨_, new, rfl⟩, PySem.F.args_list_init_2 _ _, ?_⟩
    have fr : H s.heap.objs.size = none := I.hok.fresh (Nat.le_refl _)
    have I1 : Inv X pins σ (upd H s.heap.objs.size (.lst [])) { s with heap := s.heap.push { cls := .type "list", data := .seq #[] } } :=
      I.lnew (its := []) (t' := s.toks) .nil (Nat.zero_le _)
    show wpAny _ _ (do let old ← Builtin.List.listItems (.ref s.heap.objs.size); Builtin.List.listUpdate (.ref s.heap.objs.size) (fun _ => #[]);
                       letGo old.toList.reverse; Builtin.List.listExtendWith (.ref s.heap.objs.size) (.ref a) .none) _ _ _
    refine wpAny_bind ?_
    unfold Builtin.List.listItems
    refine wpAny_bind (wpAny_seqItems new rfl (wpAny_pure ?_))
    show wpAny _ _ (updateSeq s.heap.objs.size (fun _ => #[]) >>= fun _ =>
      letGo (#[] : Array Value).toList.reverse >>= fun _ => Builtin.List.listExtendWith (.ref s.heap.objs.size) (.ref a) .none) _ _ _
    refine wpAny_bind (wpAny_updateSeq new rfl ?_)
    have I2 := I1.lset (f := fun _ => #[]) (its := []) (its' := []) (ys := []) (t' := s.toks) upd_same new rfl .nil (Nat.zero_le _)
    rw [upd_upd] at I2
    refine wpAny_bind (wpAny_letGo ?_)
    generalize hq : s.heap.objs.size = q at *
    have gq : G q = none := g.fresh fr
    have naq : q ≠ a := fun z => by rw [z, hG] at gq; cases gq
    have g2 : RelH (pm X N) (upd H q (.lst [])) (cup G q (.lst [])) := g.newO fr ⟨[], upd_same, .nil⟩
    have t2 : TupSub X.K H (upd H q (.lst [])) := .new fr
    have ho2 : ownIt tab (cup G q (.lst [])) (.a (.ref a)) ys := by
      obtain ⟨a', c, fs, fld, ev, hG, hl, hf⟩ := ho
      cases ev
      exact ⟨a, c, fs, fld, rfl, by rw [cup_ne (Ne.symm naq)]; exact hG, hl, hf⟩
    unfold Builtin.List.listExtendWith
    have hGa : (cup G q (.lst [])) a = some (.ins c fs) := by rw [cup_ne (Ne.symm naq)]; exact hG
    obtain ⟨dx, ws, hHa, _, _⟩ := g2 a _ hGa
    obtain ⟨od, J⟩ := inst_of I2 hHa
    refine wpAny_bind (J.type.here ?_)
    have same : Builtin.List.listSameRef (.ref q) (.ref a) = false := by simp [Builtin.List.listSameRef, naq]
    refine PySem.W.KFB.if_not (by rw [same]; rfl) ?_
    refine wpAny_bind (own_come hI room2 rfl I2 g2 ho2 fun p it H1 s1 C => ?_)
    refine wpAny_bind (wpAny_holding (own_len hL room3 rfl C.inv C.rel ho2 hy C.st C.fp fun b H2 s2 I4 g4 t4 st4 fp4 => ?_))
    obtain ⟨vs, k1, k2⟩ := C.seq
    have seq : ∃ vs, SqF X.K H2 p vs ∧ Reps X.K H2 vs ys := ⟨vs, t4 _ _ k1, k2.mono t4⟩
    have tt : TupSub X.K H H2 := t2.trans (C.sub.trans t4)
    have nt : X.A.in1.in1.handled = none := I.ok.hd hc
    have go : ∀ s3, Inv X pins σ H2 s3 → s3.heap.IsTupleIter it p 0 → codeAny (model X.prog X.w) X.A.in1 (.builtin "list.extend.loop" ⟨[.ref q, .ref it, .none], []⟩) (wants (fun r s₂ => r = .none ∧ EP X pins σ Q (.ref q) s₂) X.xe) s3 := fun s3 I5 st5 =>
      own_fill (N := N) (H := H2) (G := G) hc nt hy (fun H6 s6 I6 g6 t6 => ⟨rfl, .ref q, H6, I6, rfl, fin _ _ H6 _ (h q gq) (.a _) g6 (tt.trans t6)⟩) ys.length 0 H2 s3 (by omega) I5 (by rw [List.take_zero]; exact g4) .rfl' seq st5 fp4
    refine wpAny_ite_split (fun _ => ?_) (fun _ => wpAny_pure ⟨plainId_quiet PySem.F.plain_extend_loop _, go s2 I4 st4⟩)
    refine wpAny_bind (wpAny_rule ?_)
    refine wpAny_bind ?_
    show wpAny _ _ (updateSeq q (·.push .none) >>= fun _ =>
      updateSeq q (·.pop)) _ _ _
    obtain ⟨acc, hq2, ra⟩ := g4 q _ cup_same
    cases ra
    obtain ⟨z, its, kk3, r3, hl3, e3⟩ := I4.lstM hq2
    cases r3
    have nit : q ≠ it := fun z => by rw [z, fp4.1] at hq2; cases hq2
    refine wpAny_bind (wpAny_updateSeq e3 rfl ?_)
    have I5 := I4.lset (f := (·.push Value.none)) (its' := [Value.none]) (ys := [.non]) (t' := s2.toks) hq2 e3
      (by simp) (.cons rfl .nil) (by rw [List.length_singleton, sizeLine_eq]; decide)
    obtain ⟨z4, its4, k4, r4, hl4, e4⟩ := I5.lstM upd_same
    obtain ⟨u4, rfl, ru4⟩ := r4.one
    refine wpAny_updateSeq e4 rfl ?_ (by show 1 ≤ sizeLine; rw [sizeLine_eq]; decide)
      (by show 0 ≤ sizeLine + 1; exact Nat.zero_le _)
    have I6 := I5.lset (f := (·.pop)) (its := [u4]) (its' := []) (ys := []) (t' := s2.toks) upd_same e4
      (by rfl) .nil (Nat.zero_le _)
    rw [upd_upd] at I6
    have eH : upd H2 q (.lst []) = H2 := by
      funext b
      by_cases hb : b = q
      · rw [hb, upd_same, hq2]
      · rw [upd_ne hb]
    rw [eH] at I6
    exact wpAny_pure ⟨plainId_quiet PySem.F.plain_extend_loop _, go _ I6 (st4.at fun o e => (Heap.get?_update_other _ _ nit).trans ((Heap.get?_update_other _ _ nit).trans e))⟩
  · exact h.elim
end
def sp_Touch___len__ : CSp := spLenF c_Touch a_rows
def sp_law : CSp := fun cs G R => match cs with
  | [.a (.ref q)] => ∃ xs : List Int, G.seq q = some (xs.map CV.int) ∧ ScrOk xs ∧ ∀ G', R (.a (.bl true)) G'
  | _ => False
/-- Touch.__len__ -/
def T_Touch___len__ : CTS := (cRet (cCB (cLen []) (cCons (cAttr a_rows [] (cVar 0)) cNil)))
def T_law_21 : CTS := (cRet (cAndV (cMeth ((c_Book, sp_Book_bears, []) :: []) (cVar 15) (cCons (cVar 12) cNil)) (cOp cEq (cMeth ((c_Conductor, sp_Conductor_outcome, []) :: []) (cVar 10) (cCons (cCall sp__law_rounds [] (cCons (cVar 3) cNil)) cNil)) (cVar 11))))
def T_law_20 : CTS := (cSeq (cSetN 15 (cMeth ((c_Conductor, sp_Conductor_as_book, []) :: []) (cVar 10) cNil))
    T_law_21)
def T_law_19 : CTS := (cSeq (cIfS (cOr (cTest (cOp cNe (cAttr a_end ((c_Touch, sp_Touch_end) :: []) (cVar 13)) (cCall sp_renamed [] (cCons (cAttr a_end ((c_Touch, sp_Touch_end) :: []) (cVar 14)) (cCons (cVar 6) cNil))))) (cTest (cOp cNe (cOp cEq (cOp (cIx []) (cVar 11) (cC (.int 0))) (cC (.str "round"))) (cAttr a_is_round ((c_Touch, sp_Touch_is_round) :: []) (cVar 14))))) (cRet (cC (.bl false))) cNext)
    T_law_20)
def T_law_18 : CTS := (cSeq (cIfS (cTest (cOp cNe (cCB (cListO [(c_Touch, a_rows)]) (cCons (cVar 13) cNil)) (cLc (ciOwn [(c_Touch, a_rows)] (cVar 14)) (cgName 16) cYes (cCall sp_renamed [] (cCons (cVar 16) (cCons (cVar 6) cNil))) [16]))) (cRet (cC (.bl false))) cNext)
    T_law_19)
def T_law_17 : CTS := (cSeq (cIfS (cOr (cTest (cOp cNe (cAttr a_is_round ((c_Touch, sp_Touch_is_round) :: []) (cVar 13)) (cAttr a_is_round ((c_Touch, sp_Touch_is_round) :: []) (cVar 14)))) (cOr (cTest (cOp cNe (cAttr a_spots ((c_Touch, sp_Touch_spots) :: []) (cVar 13)) (cAttr a_spots ((c_Touch, sp_Touch_spots) :: []) (cVar 14)))) (cTest (cOp cNe (cAttr a_is_true ((c_Touch, sp_Touch_is_true) :: []) (cVar 13)) (cAttr a_is_true ((c_Touch, sp_Touch_is_true) :: []) (cVar 14)))))) (cRet (cC (.bl false))) cNext)
    T_law_18)
def T_law_16 : CTS := (cSeq (cSetN 14 (cMake c_Touch sp_Touch___init__ [.a .non] (cCons (cVar 7) (cCons (cVar 12) cNil))))
    T_law_17)
def T_law_15 : CTS := (cSeq (cSetN 13 (cMake c_Touch sp_Touch___init__ [] (cCons (cVar 7) (cCons (cVar 12) (cCons (cVar 6) cNil)))))
    T_law_16)
def T_law_14 : CTS := (cSeq (cSetN 12 (cBM ["str"] kJoin (cC (.str "")) (cCons (cCB cList (cCons (cSlice cSl (cVar 11) (cPart (cC (.int 1))) cNoPart) cNil)) cNil)))
    T_law_15)
def T_law_13 : CTS := (cSeq (cIfS (cOr (cTest (cOp cNe (cVar 8) (cCall sp__law_listed [] (cCons (cVar 4) cNil)))) (cTest (cOp cNe (cAttr a_table [] (cVar 9)) (cVar 4)))) (cRet (cC (.bl false))) cNext)
    T_law_14)
def T_law_12 : CTS := (cSeq (cIfS (cTest (cOp cNe (cCall sp__law_walk [] (cCons (cCall sp__law_moves [] (cCons (cVar 2) cNil)) (cCons (cVar 4) (cCons (cVar 5) (cCons (cVar 6) cNil))))) (cVar 11))) (cRet (cC (.bl false))) cNext)
    T_law_13)
def T_law_11 : CTS := (cSeq (cIfS (cOr (cTest (cOp cNe (cMeth ((c_Conductor, sp_Conductor_outcome, []) :: []) (cVar 9) (cCons (cCB cList (cCons (cVar 6) cNil)) cNil)) (cVar 11))) (cTest (cOp cNe (cMeth ((c_Conductor, sp_Conductor_outcome, [.a .non]) :: []) (cVar 10) cNil) (cVar 11)))) (cRet (cC (.bl false))) cNext)
    T_law_12)
def T_law_10 : CTS := (cSeq (cSetN 11 (cCall sp__law_walk [] (cCons (cCall sp__law_moves [] (cCons (cVar 2) cNil)) (cCons (cVar 4) (cCons (cCall sp_place [] (cCons (cVar 6) (cCons (cVar 5) cNil))) (cCons (cCall sp__law_rounds [] (cCons (cVar 3) cNil)) cNil))))))
    T_law_11)
def T_law_9 : CTS := (cSeq (cSetN 10 (cMake c_Conductor sp_Conductor___init__ [] (cCons (cVar 7) (cCons (cCall sp_place [] (cCons (cVar 6) (cCons (cVar 5) cNil))) (cCons (cVar 4) cNil)))))
    T_law_10)
def T_law_8 : CTS := (cSeq (cSetN 9 (cMake c_Conductor sp_Conductor___init__ [] (cCons (cVar 7) (cCons (cVar 5) (cCons (cVar 8) cNil)))))
    T_law_9)
def T_law_7 : CTS := (cSeq (cSetN 8 (cCall sp__law_listed [] (cCons (cVar 4) cNil)))
    T_law_8)
def T_law_6 : CTS := (cSeq (cSetN 7 (cMake c_Method sp_Method___init__ [] (cCons (cVar 3) (cCons (cOp (cIx []) (cVar 2) (cC (.int 1))) (cCons (cOp (cIx []) (cVar 2) (cC (.int 2))) cNil)))))
    T_law_7)
def T_law_5 : CTS := (cSeq (cSetN 6 (cCall sp__law_row [] (cCons (cVar 1) (cCons (cVar 3) cNil))))
    T_law_6)
def T_law_4 : CTS := (cSeq (cSetN 5 (cOp cAdd (cC (.int 1)) (cCall sp__law_pick [] (cCons (cVar 1) (cCons (cVar 3) cNil)))))
    T_law_5)
def T_law_3 : CTS := (cSeq (cSetN 4 (cCall sp__law_table [] (cCons (cVar 1) (cCons (cVar 3) (cCons (cCall sp__law_letters [] (cCons (cVar 2) cNil)) cNil)))))
    T_law_4)
def T_law_2 : CTS := (cSeq (cSetN 3 (cOp (cIx []) (cVar 2) (cC (.int 0))))
    T_law_3)
def T_law_1 : CTS := (cSeq (cSetN 2 (cCall sp__law_world [] (cCons (cVar 1) (cCons (cC (.int 0)) cNil))))
    T_law_2)
def T_law_0 : CTS := (cSeq (cSetN 1 (cCall sp__law_draw [] (cCons (cVar 0) cNil)))
    T_law_1)
/-- law -/
def T_law : CTS := (cSeq (cSetN 1 (cCall sp__law_draw [] (cCons (cVar 0) cNil)))
    (cSeq (cSetN 2 (cCall sp__law_world [] (cCons (cVar 1) (cCons (cC (.int 0)) cNil))))
    (cSeq (cSetN 3 (cOp (cIx []) (cVar 2) (cC (.int 0))))
    (cSeq (cSetN 4 (cCall sp__law_table [] (cCons (cVar 1) (cCons (cVar 3) (cCons (cCall sp__law_letters [] (cCons (cVar 2) cNil)) cNil)))))
    (cSeq (cSetN 5 (cOp cAdd (cC (.int 1)) (cCall sp__law_pick [] (cCons (cVar 1) (cCons (cVar 3) cNil)))))
    (cSeq (cSetN 6 (cCall sp__law_row [] (cCons (cVar 1) (cCons (cVar 3) cNil))))
    (cSeq (cSetN 7 (cMake c_Method sp_Method___init__ [] (cCons (cVar 3) (cCons (cOp (cIx []) (cVar 2) (cC (.int 1))) (cCons (cOp (cIx []) (cVar 2) (cC (.int 2))) cNil)))))
    (cSeq (cSetN 8 (cCall sp__law_listed [] (cCons (cVar 4) cNil)))
    (cSeq (cSetN 9 (cMake c_Conductor sp_Conductor___init__ [] (cCons (cVar 7) (cCons (cVar 5) (cCons (cVar 8) cNil)))))
    (cSeq (cSetN 10 (cMake c_Conductor sp_Conductor___init__ [] (cCons (cVar 7) (cCons (cCall sp_place [] (cCons (cVar 6) (cCons (cVar 5) cNil))) (cCons (cVar 4) cNil)))))
    (cSeq (cSetN 11 (cCall sp__law_walk [] (cCons (cCall sp__law_moves [] (cCons (cVar 2) cNil)) (cCons (cVar 4) (cCons (cCall sp_place [] (cCons (cVar 6) (cCons (cVar 5) cNil))) (cCons (cCall sp__law_rounds [] (cCons (cVar 3) cNil)) cNil))))))
    (cSeq (cIfS (cOr (cTest (cOp cNe (cMeth ((c_Conductor, sp_Conductor_outcome, []) :: []) (cVar 9) (cCons (cCB cList (cCons (cVar 6) cNil)) cNil)) (cVar 11))) (cTest (cOp cNe (cMeth ((c_Conductor, sp_Conductor_outcome, [.a .non]) :: []) (cVar 10) cNil) (cVar 11)))) (cRet (cC (.bl false))) cNext)
    (cSeq (cIfS (cTest (cOp cNe (cCall sp__law_walk [] (cCons (cCall sp__law_moves [] (cCons (cVar 2) cNil)) (cCons (cVar 4) (cCons (cVar 5) (cCons (cVar 6) cNil))))) (cVar 11))) (cRet (cC (.bl false))) cNext)
    (cSeq (cIfS (cOr (cTest (cOp cNe (cVar 8) (cCall sp__law_listed [] (cCons (cVar 4) cNil)))) (cTest (cOp cNe (cAttr a_table [] (cVar 9)) (cVar 4)))) (cRet (cC (.bl false))) cNext)
    (cSeq (cSetN 12 (cBM ["str"] kJoin (cC (.str "")) (cCons (cCB cList (cCons (cSlice cSl (cVar 11) (cPart (cC (.int 1))) cNoPart) cNil)) cNil)))
    (cSeq (cSetN 13 (cMake c_Touch sp_Touch___init__ [] (cCons (cVar 7) (cCons (cVar 12) (cCons (cVar 6) cNil)))))
    (cSeq (cSetN 14 (cMake c_Touch sp_Touch___init__ [.a .non] (cCons (cVar 7) (cCons (cVar 12) cNil))))
    (cSeq (cIfS (cOr (cTest (cOp cNe (cAttr a_is_round ((c_Touch, sp_Touch_is_round) :: []) (cVar 13)) (cAttr a_is_round ((c_Touch, sp_Touch_is_round) :: []) (cVar 14)))) (cOr (cTest (cOp cNe (cAttr a_spots ((c_Touch, sp_Touch_spots) :: []) (cVar 13)) (cAttr a_spots ((c_Touch, sp_Touch_spots) :: []) (cVar 14)))) (cTest (cOp cNe (cAttr a_is_true ((c_Touch, sp_Touch_is_true) :: []) (cVar 13)) (cAttr a_is_true ((c_Touch, sp_Touch_is_true) :: []) (cVar 14)))))) (cRet (cC (.bl false))) cNext)
    (cSeq (cIfS (cTest (cOp cNe (cCB (cListO [(c_Touch, a_rows)]) (cCons (cVar 13) cNil)) (cLc (ciOwn [(c_Touch, a_rows)] (cVar 14)) (cgName 16) cYes (cCall sp_renamed [] (cCons (cVar 16) (cCons (cVar 6) cNil))) [16]))) (cRet (cC (.bl false))) cNext)
    (cSeq (cIfS (cOr (cTest (cOp cNe (cAttr a_end ((c_Touch, sp_Touch_end) :: []) (cVar 13)) (cCall sp_renamed [] (cCons (cAttr a_end ((c_Touch, sp_Touch_end) :: []) (cVar 14)) (cCons (cVar 6) cNil))))) (cTest (cOp cNe (cOp cEq (cOp (cIx []) (cVar 11) (cC (.int 0))) (cC (.str "round"))) (cAttr a_is_round ((c_Touch, sp_Touch_is_round) :: []) (cVar 14))))) (cRet (cC (.bl false))) cNext)
    (cSeq (cSetN 15 (cMeth ((c_Conductor, sp_Conductor_as_book, []) :: []) (cVar 10) cNil))
    (cRet (cAndV (cMeth ((c_Book, sp_Book_bears, []) :: []) (cVar 15) (cCons (cVar 12) cNil)) (cOp cEq (cMeth ((c_Conductor, sp_Conductor_outcome, []) :: []) (cVar 10) (cCons (cCall sp__law_rounds [] (cCons (cVar 3) cNil)) cNil)) (cVar 11)))))))))))))))))))))))))
theorem T_law_eq : T_law = T_law_0 := rfl
theorem p_Touch___len__ : ∀ cs G R, sp_Touch___len__ cs G R → T_Touch___len__ (endR R) (cstart 1 cs) G := by
  intro cs G R h
  unfold sp_Touch___len__ spLenF at h
  split at h
  · obtain ⟨fs, xs, hG, hl, h⟩ := h
    unfold T_Touch___len__
    simp [cstart]
    refine kAttr_fld hG hl ?_
    simp
    exact .of h .rfl'
  · exact h.elim
/-- data that may be compared, so deep at most -/
def DatOk (n : Nat) (d : PyData) : Prop := d.canLay0 = true ∧ d.depth ≤ n
theorem DatOk.int {n : Nat} {i : Int} : DatOk n (.int i) := ⟨by simp [PyData.canLay0], by simp [PyData.depth]⟩
theorem DatOk.bool {n : Nat} {i : Bool} : DatOk n (.bool i) := ⟨by simp [PyData.canLay0], by simp [PyData.depth]⟩
theorem DatOk.none {n : Nat} : DatOk n .none := ⟨by simp [PyData.canLay0], by simp [PyData.depth]⟩
theorem DatOk.str {n : Nat} {x : Str} (h : TxtOk x) : DatOk n (.str x) := ⟨by unfold PyData.canLay0; exact h, by simp [PyData.depth]⟩
theorem datOk_all {n : Nat} : ∀ {ds : List PyData}, (∀ d ∈ ds, DatOk n d) → PyData.canLayAll0 ds = true ∧ PyData.depthAll ds ≤ n
  | [], _ => ⟨by simp [PyData.canLayAll0], by simp [PyData.depthAll]⟩
  | d :: ds, h => by
    obtain ⟨a, b⟩ := h d List.mem_cons_self
    obtain ⟨a2, b2⟩ := datOk_all (ds := ds) fun x hx => h x (List.mem_cons_of_mem _ hx)
    unfold PyData.canLayAll0 PyData.depthAll
    rw [a, a2]
    exact ⟨rfl, by omega⟩
theorem DatOk.tup {n : Nat} {ds : List PyData} (h : ∀ d ∈ ds, DatOk n d) : DatOk (n + 1) (.tuple ds) := by
  obtain ⟨a, b⟩ := datOk_all h
  exact ⟨by unfold PyData.canLay0; exact a, by unfold PyData.depth; omega⟩
theorem DatOk.lst {n : Nat} {ds : List PyData} (h : ∀ d ∈ ds, DatOk n d) : DatOk (n + 1) (.list ds) := by
  obtain ⟨a, b⟩ := datOk_all h
  exact ⟨by unfold PyData.canLay0; exact a, by unfold PyData.depth; omega⟩
theorem DatOk.shaped {n : Nat} {d : PyData} (h : DatOk n d) (hn : n ≤ 64) : SeqAt.shaped d = true := by
  unfold SeqAt.shaped
  rw [h.1]
  have := h.2
  simp
  omega
theorem DatOk.refl {n : Nat} {d : PyData} (h : DatOk n d) : PyData.eqv d d = true := SeqAt.eqv_refl d h.1
/-- alike: not unlike -/
theorem cne_same {x y : CV} {d : PyData} {n : Nat} {G : CH} {R : CVK} (hx : CDat G x d) (hy : CDat G y d) (h : DatOk n d) (hn : n ≤ 64) (hR : R (.a (.bl false)) G) : cNe x y G R :=
  ⟨d, d, hx, hy, h.shaped hn, h.shaped hn, by rw [h.refl]; exact hR⟩
theorem ceq_same {x y : CV} {d : PyData} {n : Nat} {G : CH} {R : CVK} (hx : CDat G x d) (hy : CDat G y d) (h : DatOk n d) (hn : n ≤ 64) (hR : R (.a (.bl true)) G) : cEq x y G R :=
  ⟨d, d, hx, hy, h.shaped hn, h.shaped hn, by rw [h.refl]; exact hR⟩
/-- CDats of a mapped list -/
theorem cdats_map {α : Type} {f : α → CV} {g : α → PyData} {G : CH} : ∀ {l : List α}, (∀ x ∈ l, CDat G (f x) (g x)) → CDats G (l.map f) (l.map g)
  | [], _ => .nil
  | x :: l, h => .cons (h x List.mem_cons_self) (cdats_map fun y hy => h y (List.mem_cons_of_mem _ hy))
def rowD (r : List Nat) : PyData := .tuple (r.map fun n : Nat => .int (n : Int))
theorem cdat_row (G : CH) (r : List Nat) : CDat G (rowC r) (rowD r) := .tup (cdats_map fun x _ => .int _)
theorem rowD_ok (r : List Nat) : DatOk 1 (rowD r) := DatOk.tup fun d hd => by
  obtain ⟨x, _, rfl⟩ := List.mem_map.mp hd
  exact .int
def outD : Out → PyData
  | .rnd c => .tuple [.str (Str.ofString "round"), .str (txt c)]
  | .lop a b => .tuple [.str (Str.ofString "loop"), .str (txt a), .str (txt b)]
theorem cdat_out (G : CH) (o : Out) : CDat G (outC o) (outD o) := by
  cases o with
  | rnd c => exact .tup (.cons (.str _) (.cons (.str _) .nil))
  | lop a b => exact .tup (.cons (.str _) (.cons (.str _) (.cons (.str _) .nil)))
theorem txt_lts {c : List Nat} (h : ∀ x ∈ c, x < 0x110000) : TxtOk (txt c) := by
  unfold TxtOk
  show c.toArray.all _ = true
  rw [List.all_toArray, List.all_eq_true]
  exact fun x hx => decide_eq_true (h x hx)
theorem txt_round : TxtOk (Str.ofString "round") := by unfold TxtOk; decide +kernel
theorem txt_loop : TxtOk (Str.ofString "loop") := by unfold TxtOk; decide +kernel
theorem outD_ok {o : Out} (h : ∀ x ∈ o.all, x < 0x110000) : DatOk 1 (outD o) := by
  cases o with
  | rnd c =>
    refine DatOk.tup fun d hd => ?_
    simp at hd
    rcases hd with rfl | rfl
    · exact .str txt_round
    · exact .str (txt_lts h)
  | lop a b =>
    refine DatOk.tup fun d hd => ?_
    simp at hd
    rcases hd with rfl | rfl | rfl
    · exact .str txt_loop
    · exact .str (txt_lts fun x hx => h x (List.mem_append_left _ hx))
    · exact .str (txt_lts fun x hx => h x (List.mem_append_right _ hx))
def spotsD : Option (Nat × Nat) → PyData
  | none => .none
  | some q => .tuple [.int q.1, .int q.2]
theorem cdat_spots (G : CH) (o : Option (Nat × Nat)) : CDat G (spotsC o) (spotsD o) := by
  cases o with
  | none => exact .non
  | some q => exact .tup (.cons (.int _) (.cons (.int _) .nil))
theorem spotsD_ok (o : Option (Nat × Nat)) : DatOk 1 (spotsD o) := by
  cases o with
  | none => exact .none
  | some q =>
    refine DatOk.tup fun d hd => ?_
    simp at hd
    rcases hd with rfl | rfl <;> exact .int
def pairD (q : Nat × Nat) : PyData := .tuple [.str (ltS q.1), .int q.2]
def tbD (t : Tb) : PyData := .tuple (t.map fun r => .tuple (r.map pairD))
theorem cdat_tb (G : CH) (t : Tb) : CDat G (tbC t) (tbD t) := .tup (cdats_map fun r _ => .tup (cdats_map fun q _ => .tup (.cons (.str _) (.cons (.int _) .nil))))
theorem pairD_ok {q : Nat × Nat} (h : q.1 < 0x110000) : DatOk 1 (pairD q) := by
  refine DatOk.tup fun d hd => ?_
  simp at hd
  rcases hd with rfl | rfl
  · exact .str (txt_lt h)
  · exact .int
theorem tbD_ok {t : Tb} (h : ∀ r ∈ t, ∀ q ∈ r, q.1 < 0x110000) : DatOk 3 (tbD t) := by
  refine DatOk.tup fun d hd => ?_
  obtain ⟨r, hr, rfl⟩ := List.mem_map.mp hd
  refine DatOk.tup fun d hd => ?_
  obtain ⟨q, hq, rfl⟩ := List.mem_map.mp hd
  exact pairD_ok (h r hr q hq)
mutual
def lsD : NestedKey → PyData
  | .none => .none
  | .num i => .int i
  | .text x => .str x
  | .tup ks => .list (lsDs ks)
def lsDs : List NestedKey → List PyData
  | [] => []
  | k :: ks => lsD k :: lsDs ks
end
mutual
theorem LsAt.dat {N : Addr → Prop} {G : CH} : ∀ {d : Nat} {x : CV} {k : NestedKey}, LsAt N G d x k → CDat G x (lsD k)
  | _, _, _, .num i => by unfold lsD; exact .int i
  | _, _, _, .text z => by unfold lsD; exact .str z
  | _, _, _, .lst _ e h => by unfold lsD; exact .lst (seq_of e) (LsAts.dat h)
theorem LsAts.dat {N : Addr → Prop} {G : CH} : ∀ {d : Nat} {xs : List CV} {ks : List NestedKey}, LsAts N G d xs ks → CDats G xs (lsDs ks)
  | _, _, _, .nil => by unfold lsDs; exact .nil
  | _, _, _, .cons h t => by unfold lsDs; exact .cons (LsAt.dat h) (LsAts.dat t)
end
theorem lsDs_map {α : Type} {f : α → NestedKey} : ∀ l : List α, lsDs (l.map f) = l.map fun x => lsD (f x)
  | [] => by unfold lsDs; rfl
  | x :: l => by
    rw [List.map_cons]
    unfold lsDs
    rw [lsDs_map l]
    rfl
theorem lsD_tb {t : Tb} (h : ∀ r ∈ t, ∀ q ∈ r, q.1 < 0x110000) : DatOk 3 (lsD (tbK t)) := by
  unfold tbK lsD
  rw [lsDs_map]
  refine DatOk.lst fun d hd => ?_
  obtain ⟨r, hr, rfl⟩ := List.mem_map.mp hd
  unfold tbRowK lsD
  rw [lsDs_map]
  refine DatOk.lst fun d hd => ?_
  obtain ⟨q, hq, rfl⟩ := List.mem_map.mp hd
  unfold pairK lsD
  refine DatOk.lst fun d hd => ?_
  simp [lsDs, lsD] at hd
  rcases hd with rfl | rfl
  · exact .str (txt_lt (h r hr q hq))
  · exact .int
theorem Out.lts {C : Con} (ok : ConOk C) {o : Out} (h : ∀ l ∈ o.all, (C.M.lead l).isSome = true) : ∀ l ∈ o.all, l < 0x110000 := fun l hl => by
  have := (ok.m.letter_lt (h l hl)).2
  omega
/-- what stands, behind the two conductors -/
structure LF (G : CH) (mp c1 c2 : Addr) (C : Con) (s : List Nat) (o : Out) : Prop where
  meth : MethAt G mp C.M
  con1 : ConAt G c1 C
  con2 : ConAt G c2 (C.as s)
  few : Few C.M
  ps : Perm C.M.n s
  g1 : C.go s 97 [(0, s)] [] 0 s = some o
  g2 : (C.as s).go (List.range' 1 C.M.n) 97 [(0, List.range' 1 C.M.n)] [] 0 (List.range' 1 C.M.n) = some o
  o96 : o.all.length ≤ 96
theorem LF.mono {G G' : CH} {mp c1 c2 : Addr} {C : Con} {s : List Nat} {o : Out} (h : LF G mp c1 c2 C s o) (sb : Sub G G') : LF G' mp c1 c2 C s o := ⟨h.meth.mono sb, h.con1.mono sb, h.con2.mono sb, h.few, h.ps, h.g1, h.g2, h.o96⟩
section
variable {G : CH} {mp c1 c2 : Addr} {C : Con} {s : List Nat} {o : Out}
theorem LF.ok (h : LF G mp c1 c2 C s o) : ConOk C := h.con1.1
theorem LF.ok2 (h : LF G mp c1 c2 C s o) : ConOk (C.as s) := h.con2.1
theorem LF.tells (h : LF G mp c1 c2 C s o) : o.all ≠ [] ∧ (∀ l ∈ o.all, (C.M.lead l).isSome = true) ∧ (o.isR = true ↔ endFrom C.M (List.range' 1 C.M.n) o.all = List.range' 1 C.M.n) := by
  have l1 := h.ok.t.l1
  exact go_tells (C := C.as s) h.ok2 97 _ [] 0 _ o h.g2 (show 0 < C.t.length by omega) (rounds_perm C.M.n) rfl fun l hl => by cases hl
theorem LF.lts (h : LF G mp c1 c2 C s o) : ∀ l ∈ o.all, l < 0x110000 := Out.lts h.ok h.tells.2.1
theorem LF.outd (h : LF G mp c1 c2 C s o) : DatOk 1 (outD o) := outD_ok h.lts
theorem LF.bears (h : LF G mp c1 c2 C s o) : BearsOk C.M (C.as s).bell (entsTb 0 C.t) 0 (List.range' 1 C.M.n) o.all := by
  have l1 := h.ok.t.l1
  obtain ⟨rest, _, e, b⟩ := go_bears (C := C.as s) h.ok2 97 _ [] 0 _ o h.g2 (show 0 < C.t.length by omega) (rounds_perm C.M.n)
  rw [e]
  exact b
theorem law_20 {v0 v1 v2 v4 v5 v6 v7 v8 v9 v13 v14 v15 v16 : Option CV} {R : CVK} (h : LF G mp c1 c2 C s o) (hR : ∀ G', R (.a (.bl true)) G') :
    T_law_20 (endR R) [v0, v1, v2, some (nC C.M.n), v4, v5, v6, v7, v8, v9, some (.a (.ref c2)), some (outC o), some (.a (.str (txt o.all))), v13, v14, v15, v16] G := by
  unfold T_law_20 T_law_21
  simp
  obtain ⟨ok2, mp2, hM2, hc2⟩ := id h.con2
  refine kMeth_of hc2 (sd := (sp_Conductor_as_book, [])) rfl ?_
  simp
  refine ⟨C.as s, h.con2, fun q G' sb hB => ?_⟩
  obtain ⟨mp3, d, hM3, hq⟩ := hB.ins
  refine kMeth_of hq (sd := (sp_Book_bears, [])) rfl ?_
  simp
  have h' := h.mono sb
  refine ⟨C.M, (C.as s).bell, entsTb 0 C.t, o.all, rfl, hB, by have := h.o96; omega, h.tells.2.1, h.bears, ?_⟩
  simp
  obtain ⟨ok4, mp4, hM4, hc4⟩ := id h'.con2
  refine kMeth_of hc4 (sd := (sp_Conductor_outcome, [])) rfl ?_
  simp
  have n8 := h.ok.m.n8
  refine ⟨C.M.n, rfl, by omega, ?_⟩
  refine ⟨C.as s, List.range' 1 C.M.n, 97, o, h'.con2, .inr (.inl rfl), rounds_perm _, by omega, h.g2, ?_⟩
  exact ceq_same (cdat_out _ o) (cdat_out _ o) h.outd (by omega) (.of (hR G') .rfl')
/-- the two touches -/
structure LT (G : CH) (t1 t2 : Addr) (C : Con) (s : List Nat) (o : Out) : Prop where
  one : TchAt G t1 ⟨C.M, o.all, s⟩
  two : TchAt G t2 ⟨C.M, o.all, List.range' 1 C.M.n⟩
theorem LT.mono {G G' : CH} {t1 t2 : Addr} {C : Con} {s : List Nat} {o : Out} (h : LT G t1 t2 C s o) (sb : Sub G G') : LT G' t1 t2 C s o := by
  obtain ⟨⟨a, m, b⟩, ⟨c, n, d⟩⟩ := h
  exact ⟨⟨a, m, sb _ _ b⟩, ⟨c, n, sb _ _ d⟩⟩
theorem LF.ends (h : LF G mp c1 c2 C s o) : endFrom C.M s o.all = timesR s (endFrom C.M (List.range' 1 C.M.n) o.all) := by
  have := endFrom_as h.ok.m (s := s) o.all (List.range' 1 C.M.n) (rounds_perm _)
  rw [times_to_rounds h.ps] at this
  exact this
theorem LF.round (h : LF G mp c1 c2 C s o) : (decide (o.all ≠ []) && decide (endFrom C.M (List.range' 1 C.M.n) o.all = List.range' 1 C.M.n)) = o.isR := by
  obtain ⟨a, _, c⟩ := h.tells
  rw [decide_eq_true a, Bool.true_and]
  cases e : o.isR with
  | true => exact decide_eq_true (c.mp e)
  | false => exact decide_eq_false fun z => by rw [c.mpr z] at e; cases e
theorem law_19 {t1 t2 : Addr} {v0 v1 v2 v4 v5 v7 v8 v9 v15 v16 : Option CV} {R : CVK} (h : LF G mp c1 c2 C s o) (ht : LT G t1 t2 C s o) (hR : ∀ G', R (.a (.bl true)) G') :
    T_law_19 (endR R) [v0, v1, v2, some (nC C.M.n), v4, v5, some (rowC s), v7, v8, v9, some (.a (.ref c2)), some (outC o), some (.a (.str (txt o.all))), some (.a (.ref t1)), some (.a (.ref t2)), v15, v16] G := by
  unfold T_law_19
  have n3 := h.ok.m.n3
  have n8 := h.ok.m.n8
  obtain ⟨ok1, m1, e1⟩ := id ht.one
  obtain ⟨ok2, m2, e2⟩ := id ht.two
  simp
  refine kAttr_prop e1 rfl rfl ?_
  refine ⟨_, ht.one, ?_⟩
  refine kAttr_prop e2 rfl rfl ?_
  refine ⟨_, ht.two, ?_⟩
  refine ⟨endFrom C.M (List.range' 1 C.M.n) o.all, s, C.M.n, rfl, rfl, n3, n8, endFrom_perm h.ok.m _ _ (rounds_perm _), h.ps, ?_⟩
  refine cne_same (cdat_row G _) (by show CDat G (rowC _) _; rw [← h.ends]; exact cdat_row G _) (rowD_ok _) (by omega) ?_
  refine .inl ⟨rfl, ?_⟩
  have hround := h.round
  have step : ∀ z : Str, TxtOk z → decide (z = Str.ofString "round") = o.isR → (cEq (.a (.str z)) (.a (.str (Str.ofString "round"))) G fun x G1 => kAttr a_is_round [(c_Touch, sp_Touch_is_round)] (.a (.ref t2)) G1 fun y G2 => cNe x y G2 fun c G' =>
      c = .a (.bl false) ∧ T_law_20 (endR R) [v0, v1, v2, some (nC C.M.n), v4, v5, some (rowC s), v7, v8, v9, some (.a (.ref c2)), some (outC o), some (.a (.str (txt o.all))), some (.a (.ref t1)), some (.a (.ref t2)), v15, v16] G' ∨ c = .a (.bl true) ∧ dnV R (.a (.bl false)) G') := by
    intro z hz e
    refine ceq_ss hz txt_round ?_
    refine kAttr_prop e2 rfl rfl ?_
    refine ⟨_, ht.two, ?_⟩
    show cNe _ (.a (.bl (decide (o.all ≠ []) && decide (endFrom C.M (List.range' 1 C.M.n) o.all = List.range' 1 C.M.n)))) G _
    rw [hround, e]
    exact cne_same (.bl _) (.bl _) (DatOk.bool (n := 0)) (by omega) (.inl ⟨rfl, law_20 h hR⟩)
  cases o with
  | rnd c => exact cIx_lit rfl (step _ txt_round (by show decide _ = true; exact decide_eq_true rfl))
  | lop a b => exact cIx_lit rfl (step _ txt_loop (by show decide _ = false; decide +kernel))
theorem LF.rows (h : LF G mp c1 c2 C s o) : rowsFrom C.M s o.all = (rowsFrom C.M (List.range' 1 C.M.n) o.all).map (timesR s) := by
  rw [← rowsFrom_as h.ok.m _ _ (rounds_perm _) h.tells.2.1, times_to_rounds h.ps]
theorem law_18 {t1 t2 : Addr} {v0 v1 v2 v4 v5 v7 v8 v9 v15 v16 : Option CV} {R : CVK} (h : LF G mp c1 c2 C s o) (ht : LT G t1 t2 C s o) (hR : ∀ G', R (.a (.bl true)) G') :
    T_law_18 (endR R) [v0, v1, v2, some (nC C.M.n), v4, v5, some (rowC s), v7, v8, v9, some (.a (.ref c2)), some (outC o), some (.a (.str (txt o.all))), some (.a (.ref t1)), some (.a (.ref t2)), v15, v16] G := by
  unfold T_law_18
  have n3 := h.ok.m.n3
  have n8 := h.ok.m.n8
  have hrows := h.rows
  have hlen := rowsFrom_len h.ok.m o.all (List.range' 1 C.M.n) h.tells.2.1
  have h96 := h.o96
  have hperm := rowsFrom_perm h.ok.m o.all (List.range' 1 C.M.n) (rounds_perm _) h.tells.2.1
  obtain ⟨ok1, m1, e1⟩ := id ht.one
  obtain ⟨ok2, m2, e2⟩ := id ht.two
  simp
  refine ⟨(rowsFrom C.M s o.all).map rowC, ⟨t1, c_Touch, _, a_rows, rfl, e1, rfl, rfl⟩, by rw [hrows, sizeLine_eq]; simp; omega, fun q hq => ?_⟩
  have s1 : Sub G (cup G q (.lst ((rowsFrom C.M s o.all).map rowC))) := .new hq
  refine ⟨.a (.ref t2), rfl, (rowsFrom C.M (List.range' 1 C.M.n) o.all).map rowC, ⟨t2, c_Touch, _, a_rows, rfl, s1 _ _ e2, rfl, rfl⟩, fun D hD => ?_⟩
  have nqD : q ≠ D := fun z => by subst z; rw [cup_same] at hD; cases hD
  generalize hG1 : cup G q (.lst ((rowsFrom C.M s o.all).map rowC)) = G1 at *
  generalize hrs : rowsFrom C.M (List.range' 1 C.M.n) o.all = rs at *
  show lcL _ _ _ (fun _ => True) _ _ _ _ (rs.map rowC) _
  refine lcL_inv (fun i acc G' => acc = ((rs.take i).map fun r => rowC (timesR s r)) ∧ G' = cup G1 D (.lst acc)) _ (by rw [sizeLine_eq]; simp; omega) ?_ ?_ cup_same ⟨rfl, rfl⟩
  · rintro i x hx acc G2 eG hl ⟨ha, rfl⟩ K W hK hW
    refine ⟨trivial, ?_⟩
    rw [List.getElem?_map] at hx
    obtain ⟨r, hr, rfl⟩ := Option.map_eq_some_iff.mp hx
    have et : rs.take (i + 1) = rs.take i ++ [r] := by rw [List.take_add_one, hr]; rfl
    simp [cwipe]
    refine ⟨r, s, C.M.n, rfl, rfl, n3, n8, hperm r (List.mem_of_getElem? hr), h.ps, ?_⟩
    exact hK _ _ cup_same ⟨by rw [et, ha]; simp, by rw [cup_cup]⟩
  · rintro acc G2 eG ⟨ha, rfl⟩
    refine ⟨trivial, ?_⟩
    rw [List.length_map, List.take_length] at ha
    have sq : (cup G1 D (.lst acc)) q = some (.lst ((rowsFrom C.M s o.all).map rowC)) := by
      rw [cup_ne nqD, ← hG1, cup_same]
    have e1' : (rowsFrom C.M s o.all).map rowC = rs.map fun r => rowC (timesR s r) := by rw [hrows, List.map_map]; rfl
    rw [e1'] at sq
    have s2 : Sub G (cup G1 D (.lst acc)) := s1.trans (Sub.new hD)
    refine cne_same (d := .list (rs.map fun r => rowD (timesR s r))) (n := 2) ?_ ?_ ?_ (by omega) (.inl ⟨rfl, law_19 (h.mono s2) (ht.mono s2) hR⟩)
    · exact .lst (seq_of sq) (cdats_map fun r _ => cdat_row _ _)
    · rw [ha]
      exact .lst (seq_of cup_same) (cdats_map fun r _ => cdat_row _ _)
    · refine DatOk.lst fun d hd => ?_
      obtain ⟨r, _, rfl⟩ := List.mem_map.mp hd
      exact rowD_ok _
theorem law_17 {t1 t2 : Addr} {v0 v1 v2 v4 v5 v7 v8 v9 v15 v16 : Option CV} {R : CVK} (h : LF G mp c1 c2 C s o) (ht : LT G t1 t2 C s o) (hR : ∀ G', R (.a (.bl true)) G') :
    T_law_17 (endR R) [v0, v1, v2, some (nC C.M.n), v4, v5, some (rowC s), v7, v8, v9, some (.a (.ref c2)), some (outC o), some (.a (.str (txt o.all))), some (.a (.ref t1)), some (.a (.ref t2)), v15, v16] G := by
  unfold T_law_17
  obtain ⟨ok1, m1, e1⟩ := id ht.one
  obtain ⟨ok2, m2, e2⟩ := id ht.two
  have hsp := spots_as h.ok.m h.ps h.tells.2.1
  have hends := h.ends
  simp
  refine kAttr_prop e1 rfl rfl ⟨_, ht.one, ?_⟩
  refine kAttr_prop e2 rfl rfl ⟨_, ht.two, ?_⟩
  have eR : (decide (o.all ≠ []) && decide (endFrom C.M s o.all = s)) = (decide (o.all ≠ []) && decide (endFrom C.M (List.range' 1 C.M.n) o.all = List.range' 1 C.M.n)) := by
    congr 1
    refine decide_eq_decide.mpr ?_
    rw [hends]
    constructor
    · intro e
      exact times_inj h.ps (endFrom_perm h.ok.m _ _ (rounds_perm _)) (rounds_perm _) (by rw [e, times_to_rounds h.ps])
    · intro e
      rw [e, times_to_rounds h.ps]
  show cNe (.a (.bl (decide (o.all ≠ []) && decide (endFrom C.M s o.all = s)))) (.a (.bl (decide (o.all ≠ []) && decide (endFrom C.M (List.range' 1 C.M.n) o.all = List.range' 1 C.M.n)))) G _
  rw [eR]
  refine cne_same (.bl _) (.bl _) (DatOk.bool (n := 0)) (by omega) ?_
  refine .inl ⟨rfl, ?_⟩
  refine kAttr_prop e1 rfl rfl ⟨_, ht.one, ?_⟩
  refine kAttr_prop e2 rfl rfl ⟨_, ht.two, ?_⟩
  refine cne_same (cdat_spots G _) (by rw [hsp]; exact cdat_spots G _) (spotsD_ok _) (by omega) ?_
  refine .inl ⟨rfl, ?_⟩
  refine kAttr_prop e1 rfl rfl ⟨_, ht.one, ?_⟩
  refine kAttr_prop e2 rfl rfl ⟨_, ht.two, ?_⟩
  have eT : decide (spotsGo [] (rowsFrom C.M s o.all) = none) = decide (spotsGo [] (rowsFrom C.M (List.range' 1 C.M.n) o.all) = none) := by rw [hsp]
  show cNe (.a (.bl (decide (spotsGo [] (rowsFrom C.M s o.all) = none)))) _ G _
  rw [eT]
  exact cne_same (.bl _) (.bl _) (DatOk.bool (n := 0)) (by omega) (.inl ⟨rfl, law_18 h ht hR⟩)
def outTail : Out → List CV
  | .rnd c => [.a (.str (txt c))]
  | .lop a b => [.a (.str (txt a)), .a (.str (txt b))]
theorem join_all {G : CH} {R : CVK} {q : Addr} (hq : G q = some (.lst (outTail o))) (hl : o.all.length ≤ 96) (h : R (.a (.str (txt o.all))) G) : kJoin "str" (.a (.str (Str.ofString ""))) [.a (.ref q)] G R := by
  have e0 : (Str.ofString "") = (⟨#[]⟩ : Str) := by decide +kernel
  cases o with
  | rnd c =>
    refine ⟨[txt c], hq, ?_, ?_⟩
    · have : c.length ≤ 96 := hl
      rw [e0]
      show c.toArray.size + 0 + 1 * 0 ≤ _
      simp
      omega
    · rw [TL.join_eq, e0]
      exact h
  | lop a b =>
    have hl2 : a.length + b.length ≤ 96 := by
      have : (a ++ b).length ≤ 96 := hl
      simpa using this
    refine ⟨[txt a, txt b], hq, ?_, ?_⟩
    · rw [e0]
      show a.toArray.size + (b.toArray.size + 0) + 2 * 0 ≤ _
      simp
      omega
    · rw [TL.join_eq, e0]
      have : Str.join ⟨#[]⟩ [txt a, txt b] = txt (a ++ b) := by
        show (Str.append (Str.append (txt a) ⟨#[]⟩) (txt b) : Str) = _
        unfold Str.append
        simp
      rw [this]
      exact h
theorem law_14 {v0 v1 v2 v4 v5 v8 v9 v12 v13 v14 v15 v16 : Option CV} {R : CVK} (h : LF G mp c1 c2 C s o) (hR : ∀ G', R (.a (.bl true)) G') :
    T_law_14 (endR R) [v0, v1, v2, some (nC C.M.n), v4, v5, some (rowC s), some (.a (.ref mp)), v8, v9, some (.a (.ref c2)), some (outC o), v12, v13, v14, v15, v16] G := by
  unfold T_law_14 T_law_15 T_law_16
  have h96 := h.o96
  simp
  have cut1 : cSl (outC o) (some 1) none G = fun R => R (.tup (outTail o)) G := by
    cases o with
    | rnd c => rfl
    | lop a b => rfl
  rw [cut1]
  simp
  intro q hq
  refine join_all cup_same h96 ?_
  intro t1 ht1
  have s1 : Sub G (cup G q (.lst (outTail o))) := Sub.new hq
  generalize cup G q (.lst (outTail o)) = G1 at s1 ht1 ⊢
  have h1 := h.mono s1
  have ok1 : TchOk ⟨C.M, o.all, s⟩ := ⟨h.ok.m, by show o.all.length ≤ 400; omega, h.tells.2.1, h.ps⟩
  have ok2 : TchOk ⟨C.M, o.all, List.range' 1 C.M.n⟩ := ⟨h.ok.m, by show o.all.length ≤ 400; omega, h.tells.2.1, rounds_perm _⟩
  refine ⟨⟨C.M, o.all, s⟩, rfl, h1.meth.mono (Sub.new ht1), ok1, .inr (.inl rfl), cup_same, rfl, ?_⟩
  intro t2 ht2
  rw [cup_cup] at ht2 ⊢
  have s2 : Sub G1 (cup G1 t1 (.ins c_Touch (Tch.fs ⟨C.M, o.all, s⟩ mp))) := .new ht1
  have e1 : (cup G1 t1 (.ins c_Touch (Tch.fs ⟨C.M, o.all, s⟩ mp))) t1 = some (.ins c_Touch (Tch.fs ⟨C.M, o.all, s⟩ mp)) := cup_same
  generalize cup G1 t1 (.ins c_Touch (Tch.fs ⟨C.M, o.all, s⟩ mp)) = G2 at s2 ht2 e1 ⊢
  have h2 := h1.mono s2
  refine ⟨⟨C.M, o.all, List.range' 1 C.M.n⟩, rfl, h2.meth.mono (Sub.new ht2), ok2, .inl ⟨rfl, rfl⟩, cup_same, rfl, ?_⟩
  rw [cup_cup]
  have s3 : Sub G2 (cup G2 t2 (.ins c_Touch (Tch.fs ⟨C.M, o.all, List.range' 1 C.M.n⟩ mp))) := .new ht2
  exact law_17 (h2.mono s3) ⟨⟨ok1, mp, s3 _ _ e1⟩, ⟨ok2, mp, cup_same⟩⟩ hR
end
theorem deep_tb {G : CH} (t : Tb) : DeepAt G 3 (tbC t) (tbK t) := .tup (deeps_map fun r _ => .tup (deeps_map fun q _ => .tup (.cons (.text _) (.cons (.num _) .nil))))
section
variable {G : CH} {mp c1 c2 : Addr} {C : Con} {s : List Nat} {o : Out} {N : Addr → Prop} {y : CV}
theorem LF.tb (h : LF G mp c1 c2 C s o) : ∀ r ∈ C.t, ∀ q ∈ r, q.1 < 0x110000 := fun r hr q hq => by
  have := (h.ok.m.letter_lt (h.ok.t.pr r hr q hq).1).2
  omega
theorem LF.big (h : LF G mp c1 c2 C s o) : sp_deepN.bigK (tbK C.t) = false := by
  have l4 := h.ok.t.l4
  have n8 := h.ok.m.n8
  exact big_tb (by omega) fun r hr => by rw [h.ok.t.row r hr]; omega
theorem law_13 {v0 v1 v2 v5 v12 v13 v14 v15 v16 : Option CV} {R : CVK} (h : LF G mp c1 c2 C s o) (hy : LsAt N G 3 y (tbK C.t)) (hR : ∀ G', R (.a (.bl true)) G') :
    T_law_13 (endR R) [v0, v1, v2, some (nC C.M.n), some (tbC C.t), v5, some (rowC s), some (.a (.ref mp)), some y, some (.a (.ref c1)), some (.a (.ref c2)), some (outC o), v12, v13, v14, v15, v16] G := by
  unfold T_law_13
  simp
  refine ⟨tbK C.t, 3, by omega, deep_tb _, h.big, fun z G1 s1 hz => ?_⟩
  have h1 := h.mono s1
  have hy1 : LsAt N G1 3 y (tbK C.t) := hy.mono (fun p hp => hp) fun p u _ e => s1 _ _ e
  refine cne_same hy1.dat hz.dat (lsD_tb h.tb) (by omega) (.inl ⟨rfl, ?_⟩)
  obtain ⟨ok1, m1, hM1, hc1⟩ := id h1.con1
  refine kAttr_fld hc1 (v := tbC C.t) rfl ?_
  exact cne_same (cdat_tb _ _) (cdat_tb _ _) (tbD_ok h.tb) (by omega) (.inl ⟨rfl, law_14 h1 hR⟩)
theorem law_12 {v0 v1 v12 v13 v14 v15 v16 : Option CV} {R : CVK} (h : LF G mp c1 c2 C s o) (hy : LsAt N G 3 y (tbK C.t)) (hR : ∀ G', R (.a (.bl true)) G') :
    T_law_12 (endR R) [v0, v1, some (worldC C.M), some (nC C.M.n), some (tbC C.t), some (nC C.bell), some (rowC s), some (.a (.ref mp)), some y, some (.a (.ref c1)), some (.a (.ref c2)), some (outC o), v12, v13, v14, v15, v16] G := by
  unfold T_law_12
  simp
  refine ⟨C.M, rfl, h.ok.m, fun d G1 s1 hd => ?_⟩
  have h1 := h.mono s1
  have hy1 : LsAt N G1 3 y (tbK C.t) := hy.mono (fun p hp => hp) fun p u _ e => s1 _ _ e
  refine ⟨C, s, 97, o, rfl, rfl, rfl, h.ok, h.ps, by omega, h.g1, hd, ?_⟩
  exact cne_same (cdat_out _ _) (cdat_out _ _) h.outd (by omega) (.inl ⟨rfl, law_13 h1 hy1 hR⟩)
theorem law_11 {v0 v1 v12 v13 v14 v15 v16 : Option CV} {R : CVK} (h : LF G mp c1 c2 C s o) (hy : LsAt N G 3 y (tbK C.t)) (hR : ∀ G', R (.a (.bl true)) G') :
    T_law_11 (endR R) [v0, v1, some (worldC C.M), some (nC C.M.n), some (tbC C.t), some (nC C.bell), some (rowC s), some (.a (.ref mp)), some y, some (.a (.ref c1)), some (.a (.ref c2)), some (outC o), v12, v13, v14, v15, v16] G := by
  unfold T_law_11
  simp
  obtain ⟨ok1, m1, hM1, hc1⟩ := id h.con1
  refine kMeth_of hc1 (sd := (sp_Conductor_outcome, [])) rfl ?_
  simp
  intro q hq
  have s1 : Sub G (cup G q (.lst (s.map nC))) := .new hq
  have h1 := h.mono s1
  have hy1 : LsAt N (cup G q (.lst (s.map nC))) 3 y (tbK C.t) := hy.mono (fun p hp => hp) fun p u _ e => s1 _ _ e
  refine ⟨C, s, 97, o, h1.con1, .inr (.inr ⟨q, rfl, cup_same⟩), h.ps, by omega, h.g1, ?_⟩
  refine cne_same (cdat_out _ _) (cdat_out _ _) h.outd (by omega) (.inl ⟨rfl, ?_⟩)
  obtain ⟨ok2, m2, hM2, hc2⟩ := id h1.con2
  refine kMeth_of hc2 (sd := (sp_Conductor_outcome, [.a .non])) rfl ?_
  simp
  refine ⟨C.as s, List.range' 1 C.M.n, 97, o, h1.con2, .inl ⟨rfl, rfl⟩, rounds_perm _, by omega, h.g2, ?_⟩
  exact cne_same (cdat_out _ _) (cdat_out _ _) h.outd (by omega) (.inl ⟨rfl, law_12 h1 hy1 hR⟩)
end
theorem p_law : ∀ cs G R, sp_law cs G R → T_law (endR R) (cstart 17 cs) G := by
  intro cs G R h
  unfold sp_law at h
  split at h
  · rename_i q0
    obtain ⟨xs, hq0, hscr, hR⟩ := h
    rw [T_law_eq]
    unfold T_law_0 T_law_1 T_law_2 T_law_3 T_law_4 T_law_5 T_law_6 T_law_7 T_law_8 T_law_9 T_law_10
    simp [cstart]
    refine ⟨xs, .inr ⟨q0, rfl, hq0⟩, hscr, fun p G1 hp sb1 hD => ?_⟩
    obtain ⟨D, q, hDA⟩ := hD
    have dq1 : DrawQ G1 p q 0 := ⟨D, hDA⟩
    refine ⟨0, q, 0, rfl, by omega, by omega, dq1, fun M G2 mok few _ h3 sb2 dq2 => ?_⟩
    have n3 := mok.n3
    have n8 := mok.n8
    refine cIx_lit (xs := [nC M.n, rowsC M.ls, callsC M.cs]) rfl ?_
    refine ⟨M, rfl, mok, fun ls hls => ?_⟩
    refine ⟨M, ls, q, _, rfl, rfl, mok, hls, by omega, dq2, fun t G3 tok sb3 dq3 => ?_⟩
    refine sp_pick_a (M := M.n) (by omega) (by omega) dq3 fun x G4 _ hx sb4 dq4 => ?_
    have hx := hx (by omega)
    show cAdd (.a (.int 1)) (.a (.int (x : Int))) G4 _
    rw [cAdd_ii, show (1 + (x : Int)) = ((x + 1 : Nat) : Int) from by omega]
    refine ⟨M.n, q, _, rfl, by omega, by omega, dq4, fun s G5 ps sb5 dq5 => ?_⟩
    refine cIx_lit (xs := [nC M.n, rowsC M.ls, callsC M.cs]) rfl ?_
    refine cIx_lit (xs := [nC M.n, rowsC M.ls, callsC M.cs]) rfl ?_
    intro mp hmp
    refine ⟨M, rfl, rfl, rfl, cup_same, mok, fun G6 sb6 hM => ⟨rfl, ?_⟩⟩
    have okC : ConOk ⟨M, x + 1, t⟩ := ⟨mok, by show 1 ≤ x + 1; omega, by show x + 1 ≤ M.n; omega, tok⟩
    have tb4 := tok.l4
    have big : sp_deepN.bigK (tbK t) = false := big_tb (by omega) fun r hr => by rw [tok.row r hr]; omega
    refine ⟨tbK t, 3, by omega, deep_tb _, big, fun y G7 s7 hy => ?_⟩
    intro c1 hc1
    have s8 : Sub G7 (cup G7 c1 (.ins c_Conductor [])) := .new hc1
    refine ⟨⟨M, x + 1, t⟩, 3, rfl, okC, by omega, hy.deep.mono s8, (hM.mono s7).mono s8, cup_same, rfl, ?_⟩
    rw [cup_cup]
    have s9 : Sub G7 (cup G7 c1 (.ins c_Conductor [(a_method, .a (.ref mp)), (a_bell, nC (x + 1)), (a_table, tbC t)])) := .new hc1
    have e9 : (cup G7 c1 (.ins c_Conductor [(a_method, .a (.ref mp)), (a_bell, nC (x + 1)), (a_table, tbC t)])) c1 = some (.ins c_Conductor [(a_method, .a (.ref mp)), (a_bell, nC (x + 1)), (a_table, tbC t)]) := cup_same
    show sp_place _ (cup G7 c1 (.ins c_Conductor [(a_method, .a (.ref mp)), (a_bell, nC (x + 1)), (a_table, tbC t)])) _
    generalize cup G7 c1 (.ins c_Conductor [(a_method, .a (.ref mp)), (a_bell, nC (x + 1)), (a_table, tbC t)]) = G9 at s9 e9 ⊢
    have hb := posIn_get (perm_mem ps (show 1 ≤ x + 1 by omega) (show x + 1 ≤ M.n by omega))
    refine ⟨s, M.n, x + 1, posIn (x + 1) s, rfl, rfl, n3, n8, ps, hb, ?_⟩
    intro c2 hc2
    have okC2 : ConOk (Con.as ⟨M, x + 1, t⟩ s) := Con.as_ok okC ps
    have s10 : Sub G9 (cup G9 c2 (.ins c_Conductor [])) := .new hc2
    refine ⟨Con.as ⟨M, x + 1, t⟩ s, 3, rfl, okC2, by omega, deep_tb _, ((hM.mono s7).mono s9).mono s10, cup_same, rfl, ?_⟩
    rw [cup_cup]
    have s11 : Sub G9 (cup G9 c2 (.ins c_Conductor [(a_method, .a (.ref mp)), (a_bell, nC (posIn (x + 1) s + 1)), (a_table, tbC t)])) := .new hc2
    have e11 : (cup G9 c2 (.ins c_Conductor [(a_method, .a (.ref mp)), (a_bell, nC (posIn (x + 1) s + 1)), (a_table, tbC t)])) c2 = some (.ins c_Conductor [(a_method, .a (.ref mp)), (a_bell, nC (posIn (x + 1) s + 1)), (a_table, tbC t)]) := cup_same
    show sp__law_moves _ (cup G9 c2 (.ins c_Conductor [(a_method, .a (.ref mp)), (a_bell, nC (posIn (x + 1) s + 1)), (a_table, tbC t)])) _
    generalize cup G9 c2 (.ins c_Conductor [(a_method, .a (.ref mp)), (a_bell, nC (posIn (x + 1) s + 1)), (a_table, tbC t)]) = G11 at s11 e11 ⊢
    refine ⟨M, rfl, mok, fun d G12 s12 hd => ?_⟩
    refine ⟨s, M.n, x + 1, posIn (x + 1) s, rfl, rfl, n3, n8, ps, hb, ?_⟩
    refine ⟨M.n, rfl, by omega, ?_⟩
    obtain ⟨o, g2, o96⟩ := Con.ends okC2 few
    have l1 := tok.l1
    have g1 : Con.go ⟨M, x + 1, t⟩ s 97 [(0, s)] [] 0 s = some o := by
      have := go_as okC ps 97 [(0, List.range' 1 M.n)] [] 0 (List.range' 1 M.n) (show 0 < t.length by omega) (rounds_perm _) (fun q hq => by rw [List.mem_singleton] at hq; subst hq; exact rounds_perm _)
      rw [List.map_cons, List.map_nil, times_to_rounds ps] at this
      rw [this]
      exact g2
    refine ⟨Con.as ⟨M, x + 1, t⟩ s, List.range' 1 M.n, 97, o, rfl, rfl, rfl, okC2, rounds_perm _, by omega, g2, hd, ?_⟩
    have lf : LF G12 mp c1 c2 ⟨M, x + 1, t⟩ s o := ⟨((hM.mono s7).mono s9).mono (s11.trans s12), ⟨okC, mp, ((hM.mono s7).mono s9).mono (s11.trans s12), s12 _ _ (s11 _ _ e9)⟩, ⟨okC2, mp, ((hM.mono s7).mono s9).mono (s11.trans s12), s12 _ _ e11⟩, few, ps, g1, g2, o96⟩
    exact law_11 lf (hy.mono (fun p hp => hp) fun p u _ e => s12 _ _ (s11 _ _ (s9 _ _ e))) hR
  · exact h.elim
def top (i : Nat) : Stmt := PySem.Challenge.pw_truetouch_k84_whole_renamed_starts.main.body.getD i (.Pass ⟨0, 0, 0, 0⟩)
abbrev R : PySem.W.OpenRow := PySem.W.OpenLaw.row PySem.Challenge.rw_truetouch_k84_whole_renamed_starts
def nm0 : List PySem.Str := ["_wall", "TouchError", "BadStage", "BadRow", "BadLead", "BadCall", "BadLetter", "BadCalling", "BadBell", "BadTimes", "BadEntry", "BadTable"]
def nm1 : List PySem.Str := ["TooMany", "Twice", "Unlike", "NoSpot", "NoStanding", "LETTERS", "MOST_LEVELS", "is_integer", "flat", "deep", "is_letter", "is_rising"]
def nm2 : List PySem.Str := ["is_places", "first_row", "times", "place_in", "change_move", "is_sound_row", "check_calling", "told_row", "MOST_ENTRIES", "are_wants", "is_entry", "check_entries"]
def nm3 : List PySem.Str := ["is_standing", "told_standing", "applies", "Book", "MOST_MEMORIES", "is_table_row", "told_table", "Conductor", "is_sound_change", "are_changes", "check_plain", "is_call"]
def nm4 : List PySem.Str := ["check_calls", "rows_through", "Method", "is_row", "any_row", "two_rows", "renamed", "place", "spots_of", "Touch", "_law_draw", "_law_mix"]
def nm5 : List PySem.Str := ["_law_pick", "_law_rounds", "_law_moved", "_law_change_move", "_law_change", "_law_led_change", "_law_row", "_law_letter", "_law_hunting", "_law_kept_last", "_law_world", "_law_letters"]
def nm6 : List PySem.Str := ["_law_lead_of", "_law_body_of", "_law_moves", "_law_listed", "_law_table", "_law_walk"]
def nm : List PySem.Str := nm0 ++ nm1 ++ nm2 ++ nm3 ++ nm4 ++ nm5 ++ nm6
def kn0 : List PySem.Str := ["_wall", "is_integer", "flat", "deep", "is_letter", "is_rising", "is_places", "first_row", "times", "place_in", "change_move", "is_sound_row"]
def kn1 : List PySem.Str := ["check_calling", "told_row", "are_wants", "is_entry", "check_entries", "is_standing", "told_standing", "applies", "is_table_row", "told_table", "is_sound_change", "are_changes"]
def kn2 : List PySem.Str := ["check_plain", "is_call", "check_calls", "rows_through", "is_row", "any_row", "two_rows", "renamed", "place", "spots_of", "_law_draw", "_law_mix"]
def kn3 : List PySem.Str := ["_law_pick", "_law_rounds", "_law_moved", "_law_change_move", "_law_change", "_law_led_change", "_law_row", "_law_letter", "_law_hunting", "_law_kept_last", "_law_world", "_law_letters"]
def kn4 : List PySem.Str := ["_law_lead_of", "_law_body_of", "_law_moves", "_law_listed", "_law_table", "_law_walk", "law", "Book", "Conductor", "Method", "Touch"]
def kn : List PySem.Str := kn0 ++ kn1 ++ kn2 ++ kn3 ++ kn4
def d_is_integer : Df := ⟨.glo "is_integer", "is_integer", "is_integer", (top 21), []⟩
def d_flat : Df := ⟨.glo "flat", "flat", "flat", (top 22), []⟩
def d_deep : Df := ⟨.glo "deep", "deep", "deep", (top 23), [.int 0]⟩
def d_is_letter : Df := ⟨.glo "is_letter", "is_letter", "is_letter", (top 24), []⟩
def d_is_rising : Df := ⟨.glo "is_rising", "is_rising", "is_rising", (top 25), []⟩
def d_is_places : Df := ⟨.glo "is_places", "is_places", "is_places", (top 26), []⟩
def d_first_row : Df := ⟨.glo "first_row", "first_row", "first_row", (top 28), []⟩
def d_times : Df := ⟨.glo "times", "times", "times", (top 29), []⟩
def d_place_in : Df := ⟨.glo "place_in", "place_in", "place_in", (top 30), []⟩
def d_change_move : Df := ⟨.glo "change_move", "change_move", "change_move", (top 31), []⟩
def d_is_sound_row : Df := ⟨.glo "is_sound_row", "is_sound_row", "is_sound_row", (top 32), []⟩
def d_check_calling : Df := ⟨.glo "check_calling", "check_calling", "check_calling", (top 34), []⟩
def d_told_row : Df := ⟨.glo "told_row", "told_row", "told_row", (top 35), []⟩
def d_are_wants : Df := ⟨.glo "are_wants", "are_wants", "are_wants", (top 38), []⟩
def d_is_entry : Df := ⟨.glo "is_entry", "is_entry", "is_entry", (top 39), []⟩
def d_check_entries : Df := ⟨.glo "check_entries", "check_entries", "check_entries", (top 40), []⟩
def d_is_standing : Df := ⟨.glo "is_standing", "is_standing", "is_standing", (top 41), []⟩
def d_told_standing : Df := ⟨.glo "told_standing", "told_standing", "told_standing", (top 42), []⟩
def d_applies : Df := ⟨.glo "applies", "applies", "applies", (top 43), []⟩
def d_is_table_row : Df := ⟨.glo "is_table_row", "is_table_row", "is_table_row", (top 47), []⟩
def d_told_table : Df := ⟨.glo "told_table", "told_table", "told_table", (top 48), []⟩
def d_is_sound_change : Df := ⟨.glo "is_sound_change", "is_sound_change", "is_sound_change", (top 51), []⟩
def d_are_changes : Df := ⟨.glo "are_changes", "are_changes", "are_changes", (top 53), []⟩
def d_check_plain : Df := ⟨.glo "check_plain", "check_plain", "check_plain", (top 54), []⟩
def d_is_call : Df := ⟨.glo "is_call", "is_call", "is_call", (top 55), []⟩
def d_check_calls : Df := ⟨.glo "check_calls", "check_calls", "check_calls", (top 56), []⟩
def d_rows_through : Df := ⟨.glo "rows_through", "rows_through", "rows_through", (top 57), []⟩
def d_is_row : Df := ⟨.glo "is_row", "is_row", "is_row", (top 60), []⟩
def d_any_row : Df := ⟨.glo "any_row", "any_row", "any_row", (top 61), []⟩
def d_two_rows : Df := ⟨.glo "two_rows", "two_rows", "two_rows", (top 62), []⟩
def d_renamed : Df := ⟨.glo "renamed", "renamed", "renamed", (top 63), []⟩
def d_place : Df := ⟨.glo "place", "place", "place", (top 64), []⟩
def d_spots_of : Df := ⟨.glo "spots_of", "spots_of", "spots_of", (top 66), []⟩
def d__law_draw : Df := ⟨.glo "_law_draw", "_law_draw", "_law_draw", (top 69), []⟩
def d__law_mix : Df := ⟨.glo "_law_mix", "_law_mix", "_law_mix", (top 70), []⟩
def d__law_pick : Df := ⟨.glo "_law_pick", "_law_pick", "_law_pick", (top 71), []⟩
def d__law_rounds : Df := ⟨.glo "_law_rounds", "_law_rounds", "_law_rounds", (top 72), []⟩
def d__law_moved : Df := ⟨.glo "_law_moved", "_law_moved", "_law_moved", (top 73), []⟩
def d__law_change_move : Df := ⟨.glo "_law_change_move", "_law_change_move", "_law_change_move", (top 74), []⟩
def d__law_change : Df := ⟨.glo "_law_change", "_law_change", "_law_change", (top 75), []⟩
def d__law_led_change : Df := ⟨.glo "_law_led_change", "_law_led_change", "_law_led_change", (top 76), []⟩
def d__law_row : Df := ⟨.glo "_law_row", "_law_row", "_law_row", (top 77), []⟩
def d__law_letter : Df := ⟨.glo "_law_letter", "_law_letter", "_law_letter", (top 78), []⟩
def d__law_hunting : Df := ⟨.glo "_law_hunting", "_law_hunting", "_law_hunting", (top 79), []⟩
def d__law_kept_last : Df := ⟨.glo "_law_kept_last", "_law_kept_last", "_law_kept_last", (top 80), []⟩
def d__law_world : Df := ⟨.glo "_law_world", "_law_world", "_law_world", (top 81), []⟩
def d__law_letters : Df := ⟨.glo "_law_letters", "_law_letters", "_law_letters", (top 82), []⟩
def d__law_lead_of : Df := ⟨.glo "_law_lead_of", "_law_lead_of", "_law_lead_of", (top 83), []⟩
def d__law_body_of : Df := ⟨.glo "_law_body_of", "_law_body_of", "_law_body_of", (top 84), []⟩
def d__law_moves : Df := ⟨.glo "_law_moves", "_law_moves", "_law_moves", (top 85), []⟩
def d__law_listed : Df := ⟨.glo "_law_listed", "_law_listed", "_law_listed", (top 86), []⟩
def d__law_table : Df := ⟨.glo "_law_table", "_law_table", "_law_table", (top 87), []⟩
def d__law_walk : Df := ⟨.glo "_law_walk", "_law_walk", "_law_walk", (top 88), []⟩
def d_law : Df := ⟨.glo "law", "law", "law", (top 89), []⟩
def d_Book___init__ : Df := ⟨.met "Book" "__init__", "__init__", "Book.__init__", (inClass (top 44) 1), [.adr (dflOf (.met "Book" "__init__") 0)]⟩
def d_Book_ways_from : Df := ⟨.met "Book" "ways_from", "ways_from", "Book.ways_from", (inClass (top 44) 3), []⟩
def d_Book_followers : Df := ⟨.met "Book" "followers", "followers", "Book.followers", (inClass (top 44) 4), []⟩
def d_Book_fan : Df := ⟨.met "Book" "fan", "fan", "Book.fan", (inClass (top 44) 6), []⟩
def d_Book_bears : Df := ⟨.met "Book" "bears", "bears", "Book.bears", (inClass (top 44) 7), []⟩
def d_Book___len__ : Df := ⟨.met "Book" "__len__", "__len__", "Book.__len__", (inClass (top 44) 9), []⟩
def d_Book___iter__ : Df := ⟨.met "Book" "__iter__", "__iter__", "Book.__iter__", (inClass (top 44) 10), []⟩
def d_Book___eq__ : Df := ⟨.met "Book" "__eq__", "__eq__", "Book.__eq__", (inClass (top 44) 11), []⟩
def d_Book___add__ : Df := ⟨.met "Book" "__add__", "__add__", "Book.__add__", (inClass (top 44) 12), []⟩
def d_Conductor___init__ : Df := ⟨.met "Conductor" "__init__", "__init__", "Conductor.__init__", (inClass (top 49) 0), []⟩
def d_Conductor_goes_on : Df := ⟨.met "Conductor" "goes_on", "goes_on", "Conductor.goes_on", (inClass (top 49) 1), []⟩
def d_Conductor_outcome : Df := ⟨.met "Conductor" "outcome", "outcome", "Conductor.outcome", (inClass (top 49) 2), [.non]⟩
def d_Conductor_as_book : Df := ⟨.met "Conductor" "as_book", "as_book", "Conductor.as_book", (inClass (top 49) 3), []⟩
def d_Conductor___call__ : Df := ⟨.met "Conductor" "__call__", "__call__", "Conductor.__call__", (inClass (top 49) 4), []⟩
def d_Conductor___len__ : Df := ⟨.met "Conductor" "__len__", "__len__", "Conductor.__len__", (inClass (top 49) 5), []⟩
def d_Conductor___eq__ : Df := ⟨.met "Conductor" "__eq__", "__eq__", "Conductor.__eq__", (inClass (top 49) 6), []⟩
def d_Method___init__ : Df := ⟨.met "Method" "__init__", "__init__", "Method.__init__", (inClass (top 58) 1), [.adr (dflOf (.met "Method" "__init__") 0)]⟩
def d_Method_size : Df := ⟨.get "Method" "size", "size", "Method.size", (inClass (top 58) 3), []⟩
def d_Method_told_letter : Df := ⟨.met "Method" "told_letter", "told_letter", "Method.told_letter", (inClass (top 58) 4), []⟩
def d_Method_lead : Df := ⟨.met "Method" "lead", "lead", "Method.lead", (inClass (top 58) 5), []⟩
def d_Method_head : Df := ⟨.met "Method" "head", "head", "Method.head", (inClass (top 58) 6), []⟩
def d_Method___contains__ : Df := ⟨.met "Method" "__contains__", "__contains__", "Method.__contains__", (inClass (top 58) 8), []⟩
def d_Method___len__ : Df := ⟨.met "Method" "__len__", "__len__", "Method.__len__", (inClass (top 58) 9), []⟩
def d_Method___iter__ : Df := ⟨.met "Method" "__iter__", "__iter__", "Method.__iter__", (inClass (top 58) 10), []⟩
def d_Method___eq__ : Df := ⟨.met "Method" "__eq__", "__eq__", "Method.__eq__", (inClass (top 58) 11), []⟩
def d_Method___add__ : Df := ⟨.met "Method" "__add__", "__add__", "Method.__add__", (inClass (top 58) 12), []⟩
def d_Touch___init__ : Df := ⟨.met "Touch" "__init__", "__init__", "Touch.__init__", (inClass (top 67) 0), [.non]⟩
def d_Touch_heads : Df := ⟨.get "Touch" "heads", "heads", "Touch.heads", (inClass (top 67) 1), []⟩
def d_Touch_end : Df := ⟨.get "Touch" "end", "end", "Touch.end", (inClass (top 67) 2), []⟩
def d_Touch_is_round : Df := ⟨.get "Touch" "is_round", "is_round", "Touch.is_round", (inClass (top 67) 3), []⟩
def d_Touch_is_true : Df := ⟨.get "Touch" "is_true", "is_true", "Touch.is_true", (inClass (top 67) 4), []⟩
def d_Touch_spots : Df := ⟨.get "Touch" "spots", "spots", "Touch.spots", (inClass (top 67) 5), []⟩
def d_Touch___len__ : Df := ⟨.met "Touch" "__len__", "__len__", "Touch.__len__", (inClass (top 67) 6), []⟩
def d_Touch___getitem__ : Df := ⟨.met "Touch" "__getitem__", "__getitem__", "Touch.__getitem__", (inClass (top 67) 7), []⟩
def d_Touch___iter__ : Df := ⟨.met "Touch" "__iter__", "__iter__", "Touch.__iter__", (inClass (top 67) 8), []⟩
def d_Touch___eq__ : Df := ⟨.met "Touch" "__eq__", "__eq__", "Touch.__eq__", (inClass (top 67) 9), []⟩
def d_Touch___add__ : Df := ⟨.met "Touch" "__add__", "__add__", "Touch.__add__", (inClass (top 67) 10), []⟩
def d_Touch___mul__ : Df := ⟨.met "Touch" "__mul__", "__mul__", "Touch.__mul__", (inClass (top 67) 11), []⟩
def fn0 : List Df := [d_is_integer, d_flat, d_deep, d_is_letter, d_is_rising, d_is_places, d_first_row, d_times, d_place_in, d_change_move, d_is_sound_row, d_check_calling]
def fn1 : List Df := [d_told_row, d_are_wants, d_is_entry, d_check_entries, d_is_standing, d_told_standing, d_applies, d_is_table_row, d_told_table, d_is_sound_change, d_are_changes, d_check_plain]
def fn2 : List Df := [d_is_call, d_check_calls, d_rows_through, d_is_row, d_any_row, d_two_rows, d_renamed, d_place, d_spots_of, d__law_draw, d__law_mix, d__law_pick]
def fn3 : List Df := [d__law_rounds, d__law_moved, d__law_change_move, d__law_change, d__law_led_change, d__law_row, d__law_letter, d__law_hunting, d__law_kept_last, d__law_world, d__law_letters, d__law_lead_of]
def fn4 : List Df := [d__law_body_of, d__law_moves, d__law_listed, d__law_table, d__law_walk, d_law, d_Book___init__, d_Book_ways_from, d_Book_followers, d_Book_fan, d_Book_bears, d_Book___len__]
def fn5 : List Df := [d_Book___iter__, d_Book___eq__, d_Book___add__, d_Conductor___init__, d_Conductor_goes_on, d_Conductor_outcome, d_Conductor_as_book, d_Conductor___call__, d_Conductor___len__, d_Conductor___eq__, d_Method___init__, d_Method_size]
def fn6 : List Df := [d_Method_told_letter, d_Method_lead, d_Method_head, d_Method___contains__, d_Method___len__, d_Method___iter__, d_Method___eq__, d_Method___add__, d_Touch___init__, d_Touch_heads, d_Touch_end, d_Touch_is_round]
def fn7 : List Df := [d_Touch_is_true, d_Touch_spots, d_Touch___len__, d_Touch___getitem__, d_Touch___iter__, d_Touch___eq__, d_Touch___add__, d_Touch___mul__]
def fn : List Df := fn0 ++ fn1 ++ fn2 ++ fn3 ++ fn4 ++ fn5 ++ fn6 ++ fn7
def fa0 : List Fa := [.o (.glo "_wall"), .o (.glo "is_integer"), .o (.glo "flat"), .o (.glo "deep"), .o (.glo "is_letter"), .o (.glo "is_rising"), .o (.glo "is_places"), .o (.glo "first_row"), .o (.glo "times"), .o (.glo "place_in"), .o (.glo "change_move"), .o (.glo "is_sound_row")]
def fa1 : List Fa := [.o (.glo "check_calling"), .o (.glo "told_row"), .o (.glo "are_wants"), .o (.glo "is_entry"), .o (.glo "check_entries"), .o (.glo "is_standing"), .o (.glo "told_standing"), .o (.glo "applies"), .o (.glo "is_table_row"), .o (.glo "told_table"), .o (.glo "is_sound_change"), .o (.glo "are_changes")]
def fa2 : List Fa := [.o (.glo "check_plain"), .o (.glo "is_call"), .o (.glo "check_calls"), .o (.glo "rows_through"), .o (.glo "is_row"), .o (.glo "any_row"), .o (.glo "two_rows"), .o (.glo "renamed"), .o (.glo "place"), .o (.glo "spots_of"), .o (.glo "_law_draw"), .o (.glo "_law_mix")]
def fa3 : List Fa := [.o (.glo "_law_pick"), .o (.glo "_law_rounds"), .o (.glo "_law_moved"), .o (.glo "_law_change_move"), .o (.glo "_law_change"), .o (.glo "_law_led_change"), .o (.glo "_law_row"), .o (.glo "_law_letter"), .o (.glo "_law_hunting"), .o (.glo "_law_kept_last"), .o (.glo "_law_world"), .o (.glo "_law_letters")]
def fa4 : List Fa := [.o (.glo "_law_lead_of"), .o (.glo "_law_body_of"), .o (.glo "_law_moves"), .o (.glo "_law_listed"), .o (.glo "_law_table"), .o (.glo "_law_walk"), .o (.glo "law"), .o (.str "LETTERS" "abcdefghijklmnopqrstuvwxyz"), .o (.int "MOST_LEVELS" 60), .o (.int "MOST_ENTRIES" 60), .o (.int "MOST_MEMORIES" 4), .o (.glo "Book")]
def fa5 : List Fa := [.o (.cls "Book"), .o (.mkr "Book"), .o (.noat "Book" "method"), .o (.noat "Book" "entries"), .o (.noat "Book" "by_state"), .cval "Book" "HOME" (-1), .o (.meth "Book" "__init__"), .o (.meth "Book" "ways_from"), .o (.meth "Book" "followers"), .o (.meth "Book" "fan"), .o (.meth "Book" "bears"), .o (.meth "Book" "__len__")]
def fa6 : List Fa := [.o (.meth "Book" "__iter__"), .o (.meth "Book" "__eq__"), .o (.meth "Book" "__add__"), .o (.glo "Conductor"), .o (.cls "Conductor"), .o (.mkr "Conductor"), .o (.noat "Conductor" "method"), .o (.noat "Conductor" "bell"), .o (.noat "Conductor" "table"), .o (.meth "Conductor" "__init__"), .o (.meth "Conductor" "goes_on"), .o (.meth "Conductor" "outcome")]
def fa7 : List Fa := [.o (.meth "Conductor" "as_book"), .o (.meth "Conductor" "__call__"), .o (.meth "Conductor" "__len__"), .o (.meth "Conductor" "__eq__"), .o (.glo "Method"), .o (.cls "Method"), .o (.mkr "Method"), .o (.noat "Method" "stage"), .o (.noat "Method" "plain"), .o (.noat "Method" "calls"), .o (.noat "Method" "opening"), .o (.noat "Method" "leads")]
def fa8 : List Fa := [.o (.noat "Method" "row_of_letters"), .o (.noat "Method" "moves"), .o (.noat "Method" "bodies"), .o (.meth "Method" "__init__"), .prop "Method" "size", .o (.meth "Method" "told_letter"), .o (.meth "Method" "lead"), .o (.meth "Method" "head"), .o (.meth "Method" "__contains__"), .o (.meth "Method" "__len__"), .o (.meth "Method" "__iter__"), .o (.meth "Method" "__eq__")]
def fa9 : List Fa := [.o (.meth "Method" "__add__"), .o (.glo "Touch"), .o (.cls "Touch"), .o (.mkr "Touch"), .o (.noat "Touch" "method"), .o (.noat "Touch" "calling"), .o (.noat "Touch" "start"), .o (.noat "Touch" "row_of_heads"), .o (.noat "Touch" "rows"), .o (.meth "Touch" "__init__"), .prop "Touch" "heads", .prop "Touch" "end"]
def fa10 : List Fa := [.prop "Touch" "is_round", .prop "Touch" "is_true", .prop "Touch" "spots", .o (.meth "Touch" "__len__"), .o (.meth "Touch" "__getitem__"), .o (.meth "Touch" "__iter__"), .o (.meth "Touch" "__eq__"), .o (.meth "Touch" "__add__"), .o (.meth "Touch" "__mul__"), .o (.free "abs"), .o (.free "bool"), .o (.free "enumerate")]
def fa11 : List Fa := [.o (.free "int"), .o (.free "isinstance"), .o (.free "iter"), .o (.free "len"), .o (.free "list"), .o (.free "max"), .o (.free "range"), .o (.free "sorted"), .o (.free "str"), .o (.free "sum"), .o (.free "tuple")]
def fa : List Fa := fa0 ++ fa1 ++ fa2 ++ fa3 ++ fa4 ++ fa5 ++ fa6 ++ fa7 ++ fa8 ++ fa9 ++ fa10 ++ fa11
abbrev hk : PySem.W.Hook := hook3 kn fa fn
def ob (s : PySem.W.SharedT) : Al := obsG kn fa fn (HandSHeadRun.getT s)
theorem ob_eq (s : PySem.W.SharedT) : ob s = hk.obs s.abs := obsG_eq (HandSHeadRun.getT_eq s)
theorem run (w : World) : HandSHeadRun.RunEq R (PySem.W.view R.prog [89]) hk ob 60000 nm w := by
  intro os
  kernel_rfl
structure Fx (Γ : Gam) : Prop where
  kin : Γ.K.In Γ.base
  glob : Γ.base.Ns mainGlobals Γ.mg
  says : Says fa fn Γ.K
theorem fx_abs {Γ : Gam} (fx : Fx Γ) : Γ.mg "abs" = none := He.free_ok fx.kin fx.glob (fx.says.fact 129 (f := .o (.free "abs")) rfl)
theorem fx_bool {Γ : Gam} (fx : Fx Γ) : Γ.mg "bool" = none := He.free_ok fx.kin fx.glob (fx.says.fact 130 (f := .o (.free "bool")) rfl)
theorem fx_enumerate {Γ : Gam} (fx : Fx Γ) : Γ.mg "enumerate" = none := He.free_ok fx.kin fx.glob (fx.says.fact 131 (f := .o (.free "enumerate")) rfl)
theorem fx_int {Γ : Gam} (fx : Fx Γ) : Γ.mg "int" = none := He.free_ok fx.kin fx.glob (fx.says.fact 132 (f := .o (.free "int")) rfl)
theorem fx_isinstance {Γ : Gam} (fx : Fx Γ) : Γ.mg "isinstance" = none := He.free_ok fx.kin fx.glob (fx.says.fact 133 (f := .o (.free "isinstance")) rfl)
theorem fx_iter {Γ : Gam} (fx : Fx Γ) : Γ.mg "iter" = none := He.free_ok fx.kin fx.glob (fx.says.fact 134 (f := .o (.free "iter")) rfl)
theorem fx_len {Γ : Gam} (fx : Fx Γ) : Γ.mg "len" = none := He.free_ok fx.kin fx.glob (fx.says.fact 135 (f := .o (.free "len")) rfl)
theorem fx_list {Γ : Gam} (fx : Fx Γ) : Γ.mg "list" = none := He.free_ok fx.kin fx.glob (fx.says.fact 136 (f := .o (.free "list")) rfl)
theorem fx_max {Γ : Gam} (fx : Fx Γ) : Γ.mg "max" = none := He.free_ok fx.kin fx.glob (fx.says.fact 137 (f := .o (.free "max")) rfl)
theorem fx_range {Γ : Gam} (fx : Fx Γ) : Γ.mg "range" = none := He.free_ok fx.kin fx.glob (fx.says.fact 138 (f := .o (.free "range")) rfl)
theorem fx_sorted {Γ : Gam} (fx : Fx Γ) : Γ.mg "sorted" = none := He.free_ok fx.kin fx.glob (fx.says.fact 139 (f := .o (.free "sorted")) rfl)
theorem fx_str {Γ : Gam} (fx : Fx Γ) : Γ.mg "str" = none := He.free_ok fx.kin fx.glob (fx.says.fact 140 (f := .o (.free "str")) rfl)
theorem fx_sum {Γ : Gam} (fx : Fx Γ) : Γ.mg "sum" = none := He.free_ok fx.kin fx.glob (fx.says.fact 141 (f := .o (.free "sum")) rfl)
theorem fx_tuple {Γ : Gam} (fx : Fx Γ) : Γ.mg "tuple" = none := He.free_ok fx.kin fx.glob (fx.says.fact 142 (f := .o (.free "tuple")) rfl)
theorem fx_LETTERS {Γ : Gam} (fx : Fx Γ) : ∃ t, Γ.mg "LETTERS" = some (.str "abcdefghijklmnopqrstuvwxyz" t) := He.str_ok fx.kin fx.glob (fx.says.fact 55 (f := .o (.str "LETTERS" "abcdefghijklmnopqrstuvwxyz")) rfl)
theorem fx_MOST_LEVELS {Γ : Gam} (fx : Fx Γ) : ∃ t, Γ.mg "MOST_LEVELS" = some (.int 60 t) := He.int_ok fx.kin fx.glob (fx.says.fact 56 (f := .o (.int "MOST_LEVELS" 60)) rfl)
theorem fx_MOST_ENTRIES {Γ : Gam} (fx : Fx Γ) : ∃ t, Γ.mg "MOST_ENTRIES" = some (.int 60 t) := He.int_ok fx.kin fx.glob (fx.says.fact 57 (f := .o (.int "MOST_ENTRIES" 60)) rfl)
theorem fx_MOST_MEMORIES {Γ : Gam} (fx : Fx Γ) : ∃ t, Γ.mg "MOST_MEMORIES" = some (.int 4 t) := He.int_ok fx.kin fx.glob (fx.says.fact 58 (f := .o (.int "MOST_MEMORIES" 4)) rfl)
theorem na_Book_method {Γ : Gam} (fx : Fx Γ) : NoAttr Γ.K (He.ga Γ.K (NM.cn c_Book)) (NM.an a_method) := He.noat_ok (x := "Book") (f := "method") (fx.says.fact 62 (f := .o (.noat "Book" "method")) rfl)
theorem na_Book_entries {Γ : Gam} (fx : Fx Γ) : NoAttr Γ.K (He.ga Γ.K (NM.cn c_Book)) (NM.an a_entries) := He.noat_ok (x := "Book") (f := "entries") (fx.says.fact 63 (f := .o (.noat "Book" "entries")) rfl)
theorem na_Book_by_state {Γ : Gam} (fx : Fx Γ) : NoAttr Γ.K (He.ga Γ.K (NM.cn c_Book)) (NM.an a_by_state) := He.noat_ok (x := "Book") (f := "by_state") (fx.says.fact 64 (f := .o (.noat "Book" "by_state")) rfl)
theorem fx_Book_HOME {Γ : Gam} (fx : Fx Γ) : CvN Γ "Book" "HOME" (.int (-1)) := cv_of (C := "Book") (He.glo_ok fx.kin fx.glob (fx.says.fact 59 (f := .o (.glo "Book")) rfl)) (fx.says.fact 65 (f := .cval "Book" "HOME" (-1)) rfl)
theorem na_Conductor_method {Γ : Gam} (fx : Fx Γ) : NoAttr Γ.K (He.ga Γ.K (NM.cn c_Conductor)) (NM.an a_method) := He.noat_ok (x := "Conductor") (f := "method") (fx.says.fact 78 (f := .o (.noat "Conductor" "method")) rfl)
theorem na_Conductor_bell {Γ : Gam} (fx : Fx Γ) : NoAttr Γ.K (He.ga Γ.K (NM.cn c_Conductor)) (NM.an a_bell) := He.noat_ok (x := "Conductor") (f := "bell") (fx.says.fact 79 (f := .o (.noat "Conductor" "bell")) rfl)
theorem na_Conductor_table {Γ : Gam} (fx : Fx Γ) : NoAttr Γ.K (He.ga Γ.K (NM.cn c_Conductor)) (NM.an a_table) := He.noat_ok (x := "Conductor") (f := "table") (fx.says.fact 80 (f := .o (.noat "Conductor" "table")) rfl)
theorem na_Method_stage {Γ : Gam} (fx : Fx Γ) : NoAttr Γ.K (He.ga Γ.K (NM.cn c_Method)) (NM.an a_stage) := He.noat_ok (x := "Method") (f := "stage") (fx.says.fact 91 (f := .o (.noat "Method" "stage")) rfl)
theorem na_Method_plain {Γ : Gam} (fx : Fx Γ) : NoAttr Γ.K (He.ga Γ.K (NM.cn c_Method)) (NM.an a_plain) := He.noat_ok (x := "Method") (f := "plain") (fx.says.fact 92 (f := .o (.noat "Method" "plain")) rfl)
theorem na_Method_calls {Γ : Gam} (fx : Fx Γ) : NoAttr Γ.K (He.ga Γ.K (NM.cn c_Method)) (NM.an a_calls) := He.noat_ok (x := "Method") (f := "calls") (fx.says.fact 93 (f := .o (.noat "Method" "calls")) rfl)
theorem na_Method_opening {Γ : Gam} (fx : Fx Γ) : NoAttr Γ.K (He.ga Γ.K (NM.cn c_Method)) (NM.an a_opening) := He.noat_ok (x := "Method") (f := "opening") (fx.says.fact 94 (f := .o (.noat "Method" "opening")) rfl)
theorem na_Method_leads {Γ : Gam} (fx : Fx Γ) : NoAttr Γ.K (He.ga Γ.K (NM.cn c_Method)) (NM.an a_leads) := He.noat_ok (x := "Method") (f := "leads") (fx.says.fact 95 (f := .o (.noat "Method" "leads")) rfl)
theorem na_Method_row_of_letters {Γ : Gam} (fx : Fx Γ) : NoAttr Γ.K (He.ga Γ.K (NM.cn c_Method)) (NM.an a_row_of_letters) := He.noat_ok (x := "Method") (f := "row_of_letters") (fx.says.fact 96 (f := .o (.noat "Method" "row_of_letters")) rfl)
theorem na_Method_moves {Γ : Gam} (fx : Fx Γ) : NoAttr Γ.K (He.ga Γ.K (NM.cn c_Method)) (NM.an a_moves) := He.noat_ok (x := "Method") (f := "moves") (fx.says.fact 97 (f := .o (.noat "Method" "moves")) rfl)
theorem na_Method_bodies {Γ : Gam} (fx : Fx Γ) : NoAttr Γ.K (He.ga Γ.K (NM.cn c_Method)) (NM.an a_bodies) := He.noat_ok (x := "Method") (f := "bodies") (fx.says.fact 98 (f := .o (.noat "Method" "bodies")) rfl)
theorem na_Touch_method {Γ : Gam} (fx : Fx Γ) : NoAttr Γ.K (He.ga Γ.K (NM.cn c_Touch)) (NM.an a_method) := He.noat_ok (x := "Touch") (f := "method") (fx.says.fact 112 (f := .o (.noat "Touch" "method")) rfl)
theorem na_Touch_calling {Γ : Gam} (fx : Fx Γ) : NoAttr Γ.K (He.ga Γ.K (NM.cn c_Touch)) (NM.an a_calling) := He.noat_ok (x := "Touch") (f := "calling") (fx.says.fact 113 (f := .o (.noat "Touch" "calling")) rfl)
theorem na_Touch_start {Γ : Gam} (fx : Fx Γ) : NoAttr Γ.K (He.ga Γ.K (NM.cn c_Touch)) (NM.an a_start) := He.noat_ok (x := "Touch") (f := "start") (fx.says.fact 114 (f := .o (.noat "Touch" "start")) rfl)
theorem na_Touch_row_of_heads {Γ : Gam} (fx : Fx Γ) : NoAttr Γ.K (He.ga Γ.K (NM.cn c_Touch)) (NM.an a_row_of_heads) := He.noat_ok (x := "Touch") (f := "row_of_heads") (fx.says.fact 115 (f := .o (.noat "Touch" "row_of_heads")) rfl)
theorem na_Touch_rows {Γ : Gam} (fx : Fx Γ) : NoAttr Γ.K (He.ga Γ.K (NM.cn c_Touch)) (NM.an a_rows) := He.noat_ok (x := "Touch") (f := "rows") (fx.says.fact 116 (f := .o (.noat "Touch" "rows")) rfl)
def NL__law_draw : List Str := ["_law_script", "_law_cells", "_law_cell"]
theorem nd__law_draw : NL__law_draw.Nodup := by decide +kernel
theorem b__law_draw {Γ : Gam} (fx : Fx Γ) {f : Addr} {cdv : Value} {A : Around} {outer : List Env} {s : Shared} {H : Hp} {E : XK} (hr : Room (0) (A.deeper (envOfC "_law_draw" (defScope (top 69)) s.heap.objs.size f cdv))) :
    PSs (cxOf CX0 Γ.P Γ.w Γ.K Γ.mg Γ.base NL__law_draw "_law_draw" (defScope (top 69)) f cdv A outer s H E) (defBody (top 69)) (lS ⟨Γ.P, Γ.w, Γ.K, NM⟩ T__law_draw) :=
  (css_cons (cs_setLc (i := 1) (own := [("_law_cell", 2)]) rfl nd__law_draw (ci_val (ce_var (i := 0))) (blk_ok (N := NL__law_draw) (sc := defScope (top 69)) (own := [("_law_cell", 2)]) (by decide +kernel)) (by decide) (fun _ _ _ _ _ => (cg_name (i := 2) nd__law_draw)) (fun _ _ _ _ _ => cts_nil) (fun _ _ _ _ _ => (ce_var (i := 2))))
    (css_one (cs_ret (ce_lst (ca_cons (ce_var (i := 1)) (ca_cons ce_int (ca_cons ce_int (ca_cons ce_int (ca_cons ce_int (ca_cons (ce_op cop_add (ce_op cop_mod (ce_callTy cc_int (fx_int fx) (ca_cons (ce_callB (cc_sum rfl) (fx_sum fx) (ca_cons (ce_var (i := 1)) ca_nil)) ca_nil)) ce_int) (ce_op cop_mul ce_int (ce_callB (cc_len [] hr.units) (fx_len fx) (ca_cons (ce_var (i := 1)) ca_nil)))) ca_nil))))))))))
def ps__law_draw : List Str := ["_law_script"]
theorem len__law_draw : ∀ cs G R, sp__law_draw cs G R → cs.length = 1 := fun cs G R h => by
  unfold sp__law_draw at h
  try unfold spLenF at h
  split at h <;> first | rfl | exact h.elim
theorem ok__law_draw {Γ : Gam} (fx : Fx Γ) {f : Addr} {fd : FuncData} {dvs : List V} (F : FunD Γ.K d__law_draw.name d__law_draw.qual (defArgs d__law_draw.st) (defBody d__law_draw.st) (defScope d__law_draw.st) dvs [] f fd) : FnOk Γ.P Γ.w Γ.K Γ.mg Γ.base CX0 1 f fd ps__law_draw (lSp ⟨Γ.P, Γ.w, Γ.K, NM⟩ sp__law_draw) :=
  fn_ok3 (ar := 0) (T := T__law_draw) F (fs_ok (N := NL__law_draw) (by decide +kernel)) len__law_draw (fun cdv A outer s H E hr => b__law_draw fx hr) p__law_draw
theorem f__law_draw {Γ : Gam} (fx : Fx Γ) : FnN Γ NM "_law_draw" 1 sp__law_draw [] 1 := by
  obtain ⟨fd, F⟩ := fx.says.def_ 33 (d := d__law_draw) rfl
  exact ⟨_, He.glo_ok fx.kin fx.glob (fx.says.fact 34 (f := .o (.glo "_law_draw")) rfl), F.kp, ⟨fd, ps__law_draw, [], [], ok__law_draw fx F, rfl, fun _ => .nil, .nil, F.bindsN fun _ _ _ _ _ _ us hl => match us, hl with | [_], _ => rfl⟩⟩
def NL__law_mix : List Str := ["_law_cell", "_law_turn", "_law_one", "_law_two"]
theorem nd__law_mix : NL__law_mix.Nodup := by decide +kernel
theorem b__law_mix {Γ : Gam} (fx : Fx Γ) {f : Addr} {cdv : Value} {A : Around} {outer : List Env} {s : Shared} {H : Hp} {E : XK} (hr : Room (0) (A.deeper (envOfC "_law_mix" (defScope (top 70)) s.heap.objs.size f cdv))) :
    PSs (cxOf CX0 Γ.P Γ.w Γ.K Γ.mg Γ.base NL__law_mix "_law_mix" (defScope (top 70)) f cdv A outer s H E) (defBody (top 70)) (lS ⟨Γ.P, Γ.w, Γ.K, NM⟩ T__law_mix) :=
  (css_cons (cs_set (i := 2) nd__law_mix (ce_op cop_mod (ce_callTy cc_int (fx_int fx) (ca_cons (ce_op cop_add (ce_op cop_add (ce_op cop_mul (ce_var (i := 0)) ce_int) (ce_op cop_mul (ce_var (i := 1)) ce_int)) ce_int) ca_nil)) ce_int))
    (css_cons (cs_set (i := 3) nd__law_mix (ce_op cop_mod (ce_callTy cc_int (fx_int fx) (ca_cons (ce_op cop_add (ce_op cop_add (ce_op cop_mul (ce_var (i := 2)) (ce_var (i := 2))) (ce_op cop_mul (ce_var (i := 1)) ce_int)) (ce_var (i := 0))) ca_nil)) ce_int))
    (css_cons (cs_set (i := 3) nd__law_mix (ce_op cop_mod (ce_callTy cc_int (fx_int fx) (ca_cons (ce_op cop_add (ce_op cop_mul (ce_var (i := 3)) (ce_var (i := 3))) (ce_var (i := 2))) ca_nil)) ce_int))
    (css_one (cs_ret (ce_op cop_div (ce_var (i := 3)) ce_int))))))
def ps__law_mix : List Str := ["_law_cell", "_law_turn"]
theorem len__law_mix : ∀ cs G R, sp__law_mix cs G R → cs.length = 2 := fun cs G R h => by
  unfold sp__law_mix at h
  try unfold spLenF at h
  split at h <;> first | rfl | exact h.elim
theorem ok__law_mix {Γ : Gam} (fx : Fx Γ) {f : Addr} {fd : FuncData} {dvs : List V} (F : FunD Γ.K d__law_mix.name d__law_mix.qual (defArgs d__law_mix.st) (defBody d__law_mix.st) (defScope d__law_mix.st) dvs [] f fd) : FnOk Γ.P Γ.w Γ.K Γ.mg Γ.base CX0 1 f fd ps__law_mix (lSp ⟨Γ.P, Γ.w, Γ.K, NM⟩ sp__law_mix) :=
  fn_ok3 (ar := 0) (T := T__law_mix) F (fs_ok (N := NL__law_mix) (by decide +kernel)) len__law_mix (fun cdv A outer s H E hr => b__law_mix fx hr) p__law_mix
theorem f__law_mix {Γ : Gam} (fx : Fx Γ) : FnN Γ NM "_law_mix" 1 sp__law_mix [] 2 := by
  obtain ⟨fd, F⟩ := fx.says.def_ 34 (d := d__law_mix) rfl
  exact ⟨_, He.glo_ok fx.kin fx.glob (fx.says.fact 35 (f := .o (.glo "_law_mix")) rfl), F.kp, ⟨fd, ps__law_mix, [], [], ok__law_mix fx F, rfl, fun _ => .nil, .nil, F.bindsN fun _ _ _ _ _ _ us hl => match us, hl with | [_, _], _ => rfl⟩⟩
def NL__law_pick : List Str := ["_law_draw_here", "_law_many", "_law_cell", "_law_digit", "_law_found"]
theorem nd__law_pick : NL__law_pick.Nodup := by decide +kernel
theorem b__law_pick {Γ : Gam} (fx : Fx Γ) {f : Addr} {cdv : Value} {A : Around} {outer : List Env} {s : Shared} {H : Hp} {E : XK} (hr : Room (3) (A.deeper (envOfC "_law_pick" (defScope (top 71)) s.heap.objs.size f cdv))) :
    PSs (cxOf CX0 Γ.P Γ.w Γ.K Γ.mg Γ.base NL__law_pick "_law_pick" (defScope (top 71)) f cdv A outer s H E) (defBody (top 71)) (lS ⟨Γ.P, Γ.w, Γ.K, NM⟩ T__law_pick) :=
  (css_cons (cs_if (ct_cmp cop_lt (ce_var (i := 1)) ce_int) (css_one (cs_ret ce_int)) css_nil)
    (css_cons (cs_if (PW.pt (cw_and (ct_cmp (cop_eq hr.units) (ce_ix (cix hr.units) (ce_var (i := 0)) ce_int) ce_int) (cw_and (ct_cmp cop_lt (ce_ix (cix hr.units) (ce_var (i := 0)) ce_int) (ce_callB (cc_len [] hr.units) (fx_len fx) (ca_cons (ce_ix (cix hr.units) (ce_var (i := 0)) ce_int) ca_nil))) (cw_one_and (ct_cmp (cop_eq hr.units) (ce_ix (cix hr.units) (ce_var (i := 0)) ce_int) ce_int))))) (css_cons (cs_set (i := 2) nd__law_pick (ce_ix (cix hr.units) (ce_ix (cix hr.units) (ce_var (i := 0)) ce_int) (ce_ix (cix hr.units) (ce_var (i := 0)) ce_int)))
    (css_one (cs_if (PW.pt (cw_or (ct_cmp cop_ge (ce_var (i := 2)) (ce_op cop_pow ce_int ce_int)) (cw_one_or (ct_cmp cop_le (ce_var (i := 2)) (ce_neg (ce_op cop_pow ce_int ce_int)))))) (css_cons (cs_asg (wk := false) (ce_op cop_mod (ce_callTy cc_int (fx_int fx) (ca_cons (ce_callB cc_abs (fx_abs fx) (ca_cons (ce_var (i := 2)) ca_nil)) ca_nil)) (ce_op cop_pow (ce_op cop_pow ce_int ce_int) ce_int)) (cg_sub (ce_var (i := 0)) ce_int (cset hr.units)))
    (css_one (cs_asg (wk := false) (ce_op cop_add (ce_ix (cix hr.units) (ce_var (i := 0)) ce_int) ce_int) (cg_sub (ce_var (i := 0)) ce_int (cset hr.units))))) css_nil))) css_nil)
    (css_cons (cs_if (ct_cmp cop_gt (ce_ix (cix hr.units) (ce_var (i := 0)) ce_int) ce_int) (css_cons (cs_set (i := 3) nd__law_pick (ce_op cop_mod (ce_callTy cc_int (fx_int fx) (ca_cons (ce_ix (cix hr.units) (ce_var (i := 0)) ce_int) ca_nil)) (ce_var (i := 1))))
    (css_cons (cs_asg (wk := false) (ce_op cop_div (ce_ix (cix hr.units) (ce_var (i := 0)) ce_int) (ce_var (i := 1))) (cg_sub (ce_var (i := 0)) ce_int (cset hr.units)))
    (css_one (cs_ret (ce_var (i := 3)))))) css_nil)
    (css_cons (cs_if (ct_cmp cop_lt (ce_ix (cix hr.units) (ce_var (i := 0)) ce_int) (ce_callB (cc_len [] hr.units) (fx_len fx) (ca_cons (ce_ix (cix hr.units) (ce_var (i := 0)) ce_int) ca_nil))) (css_cons (cs_set (i := 2) nd__law_pick (ce_ix (cix hr.units) (ce_ix (cix hr.units) (ce_var (i := 0)) ce_int) (ce_ix (cix hr.units) (ce_var (i := 0)) ce_int)))
    (css_cons (cs_asg (wk := false) (ce_op cop_add (ce_ix (cix hr.units) (ce_var (i := 0)) ce_int) ce_int) (cg_sub (ce_var (i := 0)) ce_int (cset hr.units)))
    (css_cons (cs_set (i := 4) nd__law_pick (ce_op cop_mod (ce_callTy cc_int (fx_int fx) (ca_cons (ce_call (f__law_mix fx) hr (ca_cons (ce_op cop_add (ce_var (i := 2)) (ce_op cop_mul ce_int (ce_ix (cix hr.units) (ce_var (i := 0)) ce_int))) (ca_cons (ce_ix (cix hr.units) (ce_var (i := 0)) ce_int) ca_nil))) ca_nil)) (ce_var (i := 1))))
    (css_cons (cs_if (ct_cmp (cop_eq hr.units) (ce_ix (cix hr.units) (ce_var (i := 0)) ce_int) ce_int) (css_cons (cs_asg (wk := false) ce_int (cg_sub (ce_var (i := 0)) ce_int (cset hr.units)))
    (css_one (cs_asg (wk := false) (ce_op cop_add (ce_ix (cix hr.units) (ce_var (i := 0)) ce_int) ce_int) (cg_sub (ce_var (i := 0)) ce_int (cset hr.units))))) css_nil)
    (css_one (cs_ret (ce_var (i := 4)))))))) css_nil)
    (css_cons (cs_asg (wk := false) (ce_op cop_add (ce_ix (cix hr.units) (ce_var (i := 0)) ce_int) ce_int) (cg_sub (ce_var (i := 0)) ce_int (cset hr.units)))
    (css_one (cs_ret (ce_op cop_mod (ce_callTy cc_int (fx_int fx) (ca_cons (ce_call (f__law_mix fx) hr (ca_cons (ce_ix (cix hr.units) (ce_var (i := 0)) ce_int) (ca_cons (ce_op cop_add (ce_ix (cix hr.units) (ce_var (i := 0)) ce_int) ce_int) ca_nil))) ca_nil)) (ce_var (i := 1))))))))))
def ps__law_pick : List Str := ["_law_draw_here", "_law_many"]
theorem len__law_pick : ∀ cs G R, sp__law_pick cs G R → cs.length = 2 := fun cs G R h => by
  unfold sp__law_pick at h
  try unfold spLenF at h
  split at h <;> first | rfl | exact h.elim
theorem ok__law_pick {Γ : Gam} (fx : Fx Γ) {f : Addr} {fd : FuncData} {dvs : List V} (F : FunD Γ.K d__law_pick.name d__law_pick.qual (defArgs d__law_pick.st) (defBody d__law_pick.st) (defScope d__law_pick.st) dvs [] f fd) : FnOk Γ.P Γ.w Γ.K Γ.mg Γ.base CX0 4 f fd ps__law_pick (lSp ⟨Γ.P, Γ.w, Γ.K, NM⟩ sp__law_pick) :=
  fn_ok3 (ar := 0) (T := T__law_pick) F (fs_ok (N := NL__law_pick) (by decide +kernel)) len__law_pick (fun cdv A outer s H E hr => b__law_pick fx hr) p__law_pick
theorem f__law_pick {Γ : Gam} (fx : Fx Γ) : FnN Γ NM "_law_pick" 4 sp__law_pick [] 2 := by
  obtain ⟨fd, F⟩ := fx.says.def_ 35 (d := d__law_pick) rfl
  exact ⟨_, He.glo_ok fx.kin fx.glob (fx.says.fact 36 (f := .o (.glo "_law_pick")) rfl), F.kp, ⟨fd, ps__law_pick, [], [], ok__law_pick fx F, rfl, fun _ => .nil, .nil, F.bindsN fun _ _ _ _ _ _ us hl => match us, hl with | [_, _], _ => rfl⟩⟩
def NL__law_led_change : List Str := ["_law_draw_here", "_law_stage", "_law_low", "_law_kept", "_law_spot", "_law_turn"]
theorem nd__law_led_change : NL__law_led_change.Nodup := by decide +kernel
theorem b__law_led_change {Γ : Gam} (fx : Fx Γ) {f : Addr} {cdv : Value} {A : Around} {outer : List Env} {s : Shared} {H : Hp} {E : XK} (hr : Room (6) (A.deeper (envOfC "_law_led_change" (defScope (top 76)) s.heap.objs.size f cdv))) :
    PSs (cxOf CX0 Γ.P Γ.w Γ.K Γ.mg Γ.base NL__law_led_change "_law_led_change" (defScope (top 76)) f cdv A outer s H E) (defBody (top 76)) (lS ⟨Γ.P, Γ.w, Γ.K, NM⟩ T__law_led_change) :=
  (css_cons (cs_set (i := 3) nd__law_led_change (ce_lst ca_nil))
    (css_cons (cs_set (i := 4) nd__law_led_change ce_int)
    (css_cons (cs_for passes_cx0 rfl (ci_rg1 (fx_range fx) (ce_var (i := 1))) (cg_name (i := 5) nd__law_led_change) (css_cons (cs_if (ct_cmp (cop_eq hr.units) (ce_var (i := 4)) (ce_var (i := 2))) (css_one (cs_set (i := 4) nd__law_led_change (ce_op cop_add (ce_var (i := 4)) ce_int))) (css_one (cs_if (PW.pt (cw_and (ct_cmp cop_lt (ce_var (i := 4)) (ce_var (i := 1))) (cw_and (ct_cmp (cop_ne hr.units) (ce_op cop_add (ce_var (i := 4)) ce_int) (ce_var (i := 2))) (cw_and (ct_cmp cop_gt (ce_op cop_add (ce_var (i := 4)) (ce_var (i := 2))) ce_int) (cw_one_and (ct_cmp cop_gt (ce_call (f__law_pick fx) hr (ca_cons (ce_var (i := 0)) (ca_cons ce_int ca_nil))) ce_int)))))) (css_one (cs_set (i := 4) nd__law_led_change (ce_op cop_add (ce_var (i := 4)) ce_int))) (css_one (cs_if (ct_cmp cop_le (ce_var (i := 4)) (ce_var (i := 1))) (css_one (cs_expr (ce_bm bm_append (ce_var (i := 3)) (ca_cons (ce_var (i := 4)) ca_nil)))) css_nil)))))
    (css_one (cs_set (i := 4) nd__law_led_change (ce_op cop_add (ce_var (i := 4)) ce_int)))))
    (css_one (cs_ret (ce_callTy cc_tuple (fx_tuple fx) (ca_cons (ce_var (i := 3)) ca_nil)))))))
def ps__law_led_change : List Str := ["_law_draw_here", "_law_stage", "_law_low"]
theorem len__law_led_change : ∀ cs G R, sp__law_led_change cs G R → cs.length = 3 := fun cs G R h => by
  unfold sp__law_led_change at h
  try unfold spLenF at h
  split at h <;> first | rfl | exact h.elim
theorem ok__law_led_change {Γ : Gam} (fx : Fx Γ) {f : Addr} {fd : FuncData} {dvs : List V} (F : FunD Γ.K d__law_led_change.name d__law_led_change.qual (defArgs d__law_led_change.st) (defBody d__law_led_change.st) (defScope d__law_led_change.st) dvs [] f fd) : FnOk Γ.P Γ.w Γ.K Γ.mg Γ.base CX0 7 f fd ps__law_led_change (lSp ⟨Γ.P, Γ.w, Γ.K, NM⟩ sp__law_led_change) :=
  fn_ok3 (ar := 0) (T := T__law_led_change) F (fs_ok (N := NL__law_led_change) (by decide +kernel)) len__law_led_change (fun cdv A outer s H E hr => b__law_led_change fx hr) p__law_led_change
theorem f__law_led_change {Γ : Gam} (fx : Fx Γ) : FnN Γ NM "_law_led_change" 7 sp__law_led_change [] 3 := by
  obtain ⟨fd, F⟩ := fx.says.def_ 40 (d := d__law_led_change) rfl
  exact ⟨_, He.glo_ok fx.kin fx.glob (fx.says.fact 41 (f := .o (.glo "_law_led_change")) rfl), F.kp, ⟨fd, ps__law_led_change, [], [], ok__law_led_change fx F, rfl, fun _ => .nil, .nil, F.bindsN fun _ _ _ _ _ _ us hl => match us, hl with | [_, _, _], _ => rfl⟩⟩
def NL__law_kept_last : List Str := ["_law_draw_here", "_law_stage", "_law_kept", "_law_spot"]
theorem nd__law_kept_last : NL__law_kept_last.Nodup := by decide +kernel
theorem b__law_kept_last {Γ : Gam} (fx : Fx Γ) {f : Addr} {cdv : Value} {A : Around} {outer : List Env} {s : Shared} {H : Hp} {E : XK} (hr : Room (9) (A.deeper (envOfC "_law_kept_last" (defScope (top 80)) s.heap.objs.size f cdv))) :
    PSs (cxOf CX0 Γ.P Γ.w Γ.K Γ.mg Γ.base NL__law_kept_last "_law_kept_last" (defScope (top 80)) f cdv A outer s H E) (defBody (top 80)) (lS ⟨Γ.P, Γ.w, Γ.K, NM⟩ T__law_kept_last) :=
  (css_cons (cs_setLc (i := 2) (own := [("_law_spot", 3)]) rfl nd__law_kept_last (ci_val (ce_call (f__law_led_change fx) hr (ca_cons (ce_var (i := 0)) (ca_cons (ce_var (i := 1)) (ca_cons ce_int ca_nil))))) (blk_ok (N := NL__law_kept_last) (sc := defScope (top 80)) (own := [("_law_spot", 3)]) (by decide +kernel)) (by decide) (fun _ _ _ _ _ => (cg_name (i := 3) nd__law_kept_last)) (fun _ _ _ _ _ => cts_nil) (fun _ _ _ _ _ => (ce_op cop_sub (ce_op cop_add (ce_var (i := 1)) ce_int) (ce_var (i := 3)))))
    (css_one (cs_ret (ce_callTy cc_tuple (fx_tuple fx) (ca_cons (ce_callB (cc_sorted rfl hr.units) (fx_sorted fx) (ca_cons (ce_var (i := 2)) ca_nil)) ca_nil)))))
def ps__law_kept_last : List Str := ["_law_draw_here", "_law_stage"]
theorem len__law_kept_last : ∀ cs G R, sp__law_kept_last cs G R → cs.length = 2 := fun cs G R h => by
  unfold sp__law_kept_last at h
  try unfold spLenF at h
  split at h <;> first | rfl | exact h.elim
theorem ok__law_kept_last {Γ : Gam} (fx : Fx Γ) {f : Addr} {fd : FuncData} {dvs : List V} (F : FunD Γ.K d__law_kept_last.name d__law_kept_last.qual (defArgs d__law_kept_last.st) (defBody d__law_kept_last.st) (defScope d__law_kept_last.st) dvs [] f fd) : FnOk Γ.P Γ.w Γ.K Γ.mg Γ.base CX0 10 f fd ps__law_kept_last (lSp ⟨Γ.P, Γ.w, Γ.K, NM⟩ sp__law_kept_last) :=
  fn_ok3 (ar := 0) (T := T__law_kept_last) F (fs_ok (N := NL__law_kept_last) (by decide +kernel)) len__law_kept_last (fun cdv A outer s H E hr => b__law_kept_last fx hr) p__law_kept_last
theorem f__law_kept_last {Γ : Gam} (fx : Fx Γ) : FnN Γ NM "_law_kept_last" 10 sp__law_kept_last [] 2 := by
  obtain ⟨fd, F⟩ := fx.says.def_ 44 (d := d__law_kept_last) rfl
  exact ⟨_, He.glo_ok fx.kin fx.glob (fx.says.fact 45 (f := .o (.glo "_law_kept_last")) rfl), F.kp, ⟨fd, ps__law_kept_last, [], [], ok__law_kept_last fx F, rfl, fun _ => .nil, .nil, F.bindsN fun _ _ _ _ _ _ us hl => match us, hl with | [_, _], _ => rfl⟩⟩
def NL__law_hunting : List Str := ["_law_draw_here", "_law_stage", "_law_plain", "_law_low"]
theorem nd__law_hunting : NL__law_hunting.Nodup := by decide +kernel
theorem b__law_hunting {Γ : Gam} (fx : Fx Γ) {f : Addr} {cdv : Value} {A : Around} {outer : List Env} {s : Shared} {H : Hp} {E : XK} (hr : Room (12) (A.deeper (envOfC "_law_hunting" (defScope (top 79)) s.heap.objs.size f cdv))) :
    PSs (cxOf CX0 Γ.P Γ.w Γ.K Γ.mg Γ.base NL__law_hunting "_law_hunting" (defScope (top 79)) f cdv A outer s H E) (defBody (top 79)) (lS ⟨Γ.P, Γ.w, Γ.K, NM⟩ T__law_hunting) :=
  (css_cons (cs_setLc (i := 2) (own := [("_law_low", 3)]) rfl nd__law_hunting (ci_rg2 (fx_range fx) ce_int (ce_var (i := 1))) (blk_ok (N := NL__law_hunting) (sc := defScope (top 79)) (own := [("_law_low", 3)]) (by decide +kernel)) (by decide) (fun _ _ _ _ _ => (cg_name (i := 3) nd__law_hunting)) (fun _ _ _ _ _ => cts_nil) (fun _ _ _ _ _ => (ce_call (f__law_led_change fx) hr (ca_cons (ce_var (i := 0)) (ca_cons (ce_var (i := 1)) (ca_cons (ce_var (i := 3)) ca_nil))))))
    (css_cons (cs_expr (ce_bm bm_append (ce_var (i := 2)) (ca_cons (ce_call (f__law_kept_last fx) hr (ca_cons (ce_var (i := 0)) (ca_cons (ce_var (i := 1)) ca_nil))) ca_nil)))
    (css_cons (cs_for passes_cx0 rfl (ci_rg3 (fx_range fx) (ce_op cop_sub (ce_var (i := 1)) ce_int) ce_int (ce_neg ce_int)) (cg_name (i := 3) nd__law_hunting) (css_one (cs_expr (ce_bm bm_append (ce_var (i := 2)) (ca_cons (ce_call (f__law_led_change fx) hr (ca_cons (ce_var (i := 0)) (ca_cons (ce_var (i := 1)) (ca_cons (ce_var (i := 3)) ca_nil)))) ca_nil)))))
    (css_cons (cs_expr (ce_bm bm_append (ce_var (i := 2)) (ca_cons (ce_call (f__law_led_change fx) hr (ca_cons (ce_var (i := 0)) (ca_cons (ce_var (i := 1)) (ca_cons ce_int ca_nil)))) ca_nil)))
    (css_one (cs_ret (ce_var (i := 2))))))))
def ps__law_hunting : List Str := ["_law_draw_here", "_law_stage"]
theorem len__law_hunting : ∀ cs G R, sp__law_hunting cs G R → cs.length = 2 := fun cs G R h => by
  unfold sp__law_hunting at h
  try unfold spLenF at h
  split at h <;> first | rfl | exact h.elim
theorem ok__law_hunting {Γ : Gam} (fx : Fx Γ) {f : Addr} {fd : FuncData} {dvs : List V} (F : FunD Γ.K d__law_hunting.name d__law_hunting.qual (defArgs d__law_hunting.st) (defBody d__law_hunting.st) (defScope d__law_hunting.st) dvs [] f fd) : FnOk Γ.P Γ.w Γ.K Γ.mg Γ.base CX0 13 f fd ps__law_hunting (lSp ⟨Γ.P, Γ.w, Γ.K, NM⟩ sp__law_hunting) :=
  fn_ok3 (ar := 0) (T := T__law_hunting) F (fs_ok (N := NL__law_hunting) (by decide +kernel)) len__law_hunting (fun cdv A outer s H E hr => b__law_hunting fx hr) p__law_hunting
theorem f__law_hunting {Γ : Gam} (fx : Fx Γ) : FnN Γ NM "_law_hunting" 13 sp__law_hunting [] 2 := by
  obtain ⟨fd, F⟩ := fx.says.def_ 43 (d := d__law_hunting) rfl
  exact ⟨_, He.glo_ok fx.kin fx.glob (fx.says.fact 44 (f := .o (.glo "_law_hunting")) rfl), F.kp, ⟨fd, ps__law_hunting, [], [], ok__law_hunting fx F, rfl, fun _ => .nil, .nil, F.bindsN fun _ _ _ _ _ _ us hl => match us, hl with | [_, _], _ => rfl⟩⟩
def NL__law_change : List Str := ["_law_draw_here", "_law_stage", "_law_kept", "_law_spot", "_law_turn"]
theorem nd__law_change : NL__law_change.Nodup := by decide +kernel
theorem b__law_change {Γ : Gam} (fx : Fx Γ) {f : Addr} {cdv : Value} {A : Around} {outer : List Env} {s : Shared} {H : Hp} {E : XK} (hr : Room (6) (A.deeper (envOfC "_law_change" (defScope (top 75)) s.heap.objs.size f cdv))) :
    PSs (cxOf CX0 Γ.P Γ.w Γ.K Γ.mg Γ.base NL__law_change "_law_change" (defScope (top 75)) f cdv A outer s H E) (defBody (top 75)) (lS ⟨Γ.P, Γ.w, Γ.K, NM⟩ T__law_change) :=
  (css_cons (cs_set (i := 2) nd__law_change (ce_lst ca_nil))
    (css_cons (cs_set (i := 3) nd__law_change ce_int)
    (css_cons (cs_for passes_cx0 rfl (ci_rg1 (fx_range fx) (ce_var (i := 1))) (cg_name (i := 4) nd__law_change) (css_cons (cs_if (PW.pt (cw_and (ct_cmp cop_lt (ce_var (i := 3)) (ce_var (i := 1))) (cw_one_and (ct_cmp cop_gt (ce_call (f__law_pick fx) hr (ca_cons (ce_var (i := 0)) (ca_cons ce_int ca_nil))) ce_int)))) (css_one (cs_set (i := 3) nd__law_change (ce_op cop_add (ce_var (i := 3)) ce_int))) (css_one (cs_if (ct_cmp cop_le (ce_var (i := 3)) (ce_var (i := 1))) (css_one (cs_expr (ce_bm bm_append (ce_var (i := 2)) (ca_cons (ce_var (i := 3)) ca_nil)))) css_nil)))
    (css_one (cs_set (i := 3) nd__law_change (ce_op cop_add (ce_var (i := 3)) ce_int)))))
    (css_one (cs_ret (ce_callTy cc_tuple (fx_tuple fx) (ca_cons (ce_var (i := 2)) ca_nil)))))))
def ps__law_change : List Str := ["_law_draw_here", "_law_stage"]
theorem len__law_change : ∀ cs G R, sp__law_change cs G R → cs.length = 2 := fun cs G R h => by
  unfold sp__law_change at h
  try unfold spLenF at h
  split at h <;> first | rfl | exact h.elim
theorem ok__law_change {Γ : Gam} (fx : Fx Γ) {f : Addr} {fd : FuncData} {dvs : List V} (F : FunD Γ.K d__law_change.name d__law_change.qual (defArgs d__law_change.st) (defBody d__law_change.st) (defScope d__law_change.st) dvs [] f fd) : FnOk Γ.P Γ.w Γ.K Γ.mg Γ.base CX0 7 f fd ps__law_change (lSp ⟨Γ.P, Γ.w, Γ.K, NM⟩ sp__law_change) :=
  fn_ok3 (ar := 0) (T := T__law_change) F (fs_ok (N := NL__law_change) (by decide +kernel)) len__law_change (fun cdv A outer s H E hr => b__law_change fx hr) p__law_change
theorem f__law_change {Γ : Gam} (fx : Fx Γ) : FnN Γ NM "_law_change" 7 sp__law_change [] 2 := by
  obtain ⟨fd, F⟩ := fx.says.def_ 39 (d := d__law_change) rfl
  exact ⟨_, He.glo_ok fx.kin fx.glob (fx.says.fact 40 (f := .o (.glo "_law_change")) rfl), F.kp, ⟨fd, ps__law_change, [], [], ok__law_change fx F, rfl, fun _ => .nil, .nil, F.bindsN fun _ _ _ _ _ _ us hl => match us, hl with | [_, _], _ => rfl⟩⟩
def NL__law_letter : List Str := ["_law_draw_here", "_law_used", "_law_pool", "_law_letter_here"]
theorem nd__law_letter : NL__law_letter.Nodup := by decide +kernel
theorem b__law_letter {Γ : Gam} (fx : Fx Γ) {f : Addr} {cdv : Value} {A : Around} {outer : List Env} {s : Shared} {H : Hp} {E : XK} (hr : Room (6) (A.deeper (envOfC "_law_letter" (defScope (top 78)) s.heap.objs.size f cdv))) :
    PSs (cxOf CX0 Γ.P Γ.w Γ.K Γ.mg Γ.base NL__law_letter "_law_letter" (defScope (top 78)) f cdv A outer s H E) (defBody (top 78)) (lS ⟨Γ.P, Γ.w, Γ.K, NM⟩ T__law_letter) :=
  (css_cons (cs_setLc (i := 2) (own := [("_law_letter_here", 3)]) rfl nd__law_letter (ci_val ce_str) (blk_ok (N := NL__law_letter) (sc := defScope (top 78)) (own := [("_law_letter_here", 3)]) (by decide +kernel)) (by decide) (fun _ _ _ _ _ => (cg_name (i := 3) nd__law_letter)) (fun _ _ _ _ _ => (cts_one (ct_cmp (cop_notIn .nil hr.units) (ce_var (i := 3)) (ce_var (i := 1))))) (fun _ _ _ _ _ => (ce_var (i := 3))))
    (css_one (cs_ret (ce_ix (cix hr.units) (ce_var (i := 2)) (ce_call (f__law_pick fx) hr (ca_cons (ce_var (i := 0)) (ca_cons (ce_callB (cc_len [] hr.units) (fx_len fx) (ca_cons (ce_var (i := 2)) ca_nil)) ca_nil)))))))
def ps__law_letter : List Str := ["_law_draw_here", "_law_used"]
theorem len__law_letter : ∀ cs G R, sp__law_letter cs G R → cs.length = 2 := fun cs G R h => by
  unfold sp__law_letter at h
  try unfold spLenF at h
  split at h <;> first | rfl | exact h.elim
theorem ok__law_letter {Γ : Gam} (fx : Fx Γ) {f : Addr} {fd : FuncData} {dvs : List V} (F : FunD Γ.K d__law_letter.name d__law_letter.qual (defArgs d__law_letter.st) (defBody d__law_letter.st) (defScope d__law_letter.st) dvs [] f fd) : FnOk Γ.P Γ.w Γ.K Γ.mg Γ.base CX0 7 f fd ps__law_letter (lSp ⟨Γ.P, Γ.w, Γ.K, NM⟩ sp__law_letter) :=
  fn_ok3 (ar := 0) (T := T__law_letter) F (fs_ok (N := NL__law_letter) (by decide +kernel)) len__law_letter (fun cdv A outer s H E hr => b__law_letter fx hr) p__law_letter
theorem f__law_letter {Γ : Gam} (fx : Fx Γ) : FnN Γ NM "_law_letter" 7 sp__law_letter [] 2 := by
  obtain ⟨fd, F⟩ := fx.says.def_ 42 (d := d__law_letter) rfl
  exact ⟨_, He.glo_ok fx.kin fx.glob (fx.says.fact 43 (f := .o (.glo "_law_letter")) rfl), F.kp, ⟨fd, ps__law_letter, [], [], ok__law_letter fx F, rfl, fun _ => .nil, .nil, F.bindsN fun _ _ _ _ _ _ us hl => match us, hl with | [_, _], _ => rfl⟩⟩
def NL__law_world : List Str := ["_law_draw_here", "_law_least", "_law_kind", "_law_stage", "_law_hunts", "_law_calls", "_law_used", "_law_turn", "_law_plain", "_law_letter_here", "_law_many", "_law_at", "_law_k"]
theorem nd__law_world : NL__law_world.Nodup := by decide +kernel
theorem b__law_world {Γ : Gam} (fx : Fx Γ) {f : Addr} {cdv : Value} {A : Around} {outer : List Env} {s : Shared} {H : Hp} {E : XK} (hr : Room (15) (A.deeper (envOfC "_law_world" (defScope (top 81)) s.heap.objs.size f cdv))) :
    PSs (cxOf CX0 Γ.P Γ.w Γ.K Γ.mg Γ.base NL__law_world "_law_world" (defScope (top 81)) f cdv A outer s H E) (defBody (top 81)) (lS ⟨Γ.P, Γ.w, Γ.K, NM⟩ T__law_world) :=
  (css_cons (cs_set (i := 2) nd__law_world (ce_call (f__law_pick fx) hr (ca_cons (ce_var (i := 0)) (ca_cons ce_int ca_nil))))
    (css_cons (cs_set (i := 3) nd__law_world (ce_ix (cix hr.units) (ce_lst (ca_cons ce_int (ca_cons ce_int (ca_cons ce_int (ca_cons ce_int (ca_cons ce_int (ca_cons ce_int ca_nil))))))) (ce_var (i := 2))))
    (css_cons (cs_set (i := 4) nd__law_world (ce_cmp (cop_in .nil hr.units) (ce_var (i := 2)) (ce_tup (ca_cons ce_int (ca_cons ce_int (ca_cons ce_int ca_nil))))))
    (css_cons (cs_if (ct_truth (ce_var (i := 4))) (css_one (cs_set (i := 8) nd__law_world (ce_call (f__law_hunting fx) hr (ca_cons (ce_var (i := 0)) (ca_cons (ce_var (i := 3)) ca_nil))))) (css_one (cs_setLc (i := 8) (own := [("_law_turn", 7)]) rfl nd__law_world (ci_rg1 (fx_range fx) (ce_op cop_add ce_int (ce_call (f__law_pick fx) hr (ca_cons (ce_var (i := 0)) (ca_cons ce_int ca_nil))))) (blk_ok (N := NL__law_world) (sc := defScope (top 81)) (own := [("_law_turn", 7)]) (by decide +kernel)) (by decide) (fun _ _ _ _ _ => (cg_name (i := 7) nd__law_world)) (fun _ _ _ _ _ => cts_nil) (fun _ _ _ _ _ => (ce_call (f__law_change fx) hr (ca_cons (ce_var (i := 0)) (ca_cons (ce_var (i := 3)) ca_nil)))))))
    (css_cons (cs_set (i := 5) nd__law_world (ce_lst ca_nil))
    (css_cons (cs_set (i := 6) nd__law_world ce_str)
    (css_cons (cs_for passes_cx0 rfl (ci_rg1 (fx_range fx) (ce_callB (cc_max rfl) (fx_max fx) (ca_cons (ce_var (i := 1)) (ca_cons (ce_ix (cix hr.units) (ce_lst (ca_cons ce_int (ca_cons ce_int (ca_cons ce_int (ca_cons ce_int (ca_cons ce_int (ca_cons ce_int ca_nil))))))) (ce_call (f__law_pick fx) hr (ca_cons (ce_var (i := 0)) (ca_cons ce_int ca_nil)))) ca_nil)))) (cg_name (i := 7) nd__law_world) (css_cons (cs_set (i := 9) nd__law_world (ce_call (f__law_letter fx) hr (ca_cons (ce_var (i := 0)) (ca_cons (ce_var (i := 6)) ca_nil))))
    (css_cons (cs_set (i := 6) nd__law_world (ce_op cop_add (ce_var (i := 6)) (ce_var (i := 9))))
    (css_one (cs_if (ct_truth (ce_var (i := 4))) (css_one (cs_expr (ce_bm bm_append (ce_var (i := 5)) (ca_cons (ce_tup (ca_cons (ce_var (i := 9)) (ca_cons (ce_op cop_sub (ce_callB (cc_len [] hr.units) (fx_len fx) (ca_cons (ce_var (i := 8)) ca_nil)) ce_int) (ca_cons (ce_tup (ca_cons (ce_call (f__law_led_change fx) hr (ca_cons (ce_var (i := 0)) (ca_cons (ce_var (i := 3)) (ca_cons ce_int ca_nil)))) ca_nil)) ca_nil)))) ca_nil)))) (css_cons (cs_set (i := 10) nd__law_world (ce_op cop_add ce_int (ce_call (f__law_pick fx) hr (ca_cons (ce_var (i := 0)) (ca_cons (ce_callB (cc_len [] hr.units) (fx_len fx) (ca_cons (ce_var (i := 8)) ca_nil)) ca_nil)))))
    (css_cons (cs_set (i := 11) nd__law_world (ce_call (f__law_pick fx) hr (ca_cons (ce_var (i := 0)) (ca_cons (ce_op cop_add (ce_op cop_sub (ce_callB (cc_len [] hr.units) (fx_len fx) (ca_cons (ce_var (i := 8)) ca_nil)) (ce_var (i := 10))) ce_int) ca_nil))))
    (css_one (cs_expr (ce_bm bm_append (ce_var (i := 5)) (ca_cons (ce_tup (ca_cons (ce_var (i := 9)) (ca_cons (ce_var (i := 11)) (ca_cons (ce_callTy cc_tuple (fx_tuple fx) (ca_cons (ce_lc (own := [("_law_k", 12)]) rfl nd__law_world (ci_rg1 (fx_range fx) (ce_var (i := 10))) (blk_ok (N := NL__law_world) (sc := defScope (top 81)) (own := [("_law_k", 12)]) (by decide +kernel)) (by decide) (fun _ _ _ _ _ => (cg_name (i := 12) nd__law_world)) (fun _ _ _ _ _ => cts_nil) (fun _ _ _ _ _ => (ce_call (f__law_change fx) hr (ca_cons (ce_var (i := 0)) (ca_cons (ce_var (i := 3)) ca_nil))))) ca_nil)) ca_nil)))) ca_nil)))))))))))
    (css_one (cs_ret (ce_tup (ca_cons (ce_var (i := 3)) (ca_cons (ce_callTy cc_tuple (fx_tuple fx) (ca_cons (ce_var (i := 8)) ca_nil)) (ca_cons (ce_callTy cc_tuple (fx_tuple fx) (ca_cons (ce_var (i := 5)) ca_nil)) ca_nil)))))))))))))
def ps__law_world : List Str := ["_law_draw_here", "_law_least"]
theorem len__law_world : ∀ cs G R, sp__law_world cs G R → cs.length = 2 := fun cs G R h => by
  unfold sp__law_world at h
  try unfold spLenF at h
  split at h <;> first | rfl | exact h.elim
theorem ok__law_world {Γ : Gam} (fx : Fx Γ) {f : Addr} {fd : FuncData} {dvs : List V} (F : FunD Γ.K d__law_world.name d__law_world.qual (defArgs d__law_world.st) (defBody d__law_world.st) (defScope d__law_world.st) dvs [] f fd) : FnOk Γ.P Γ.w Γ.K Γ.mg Γ.base CX0 16 f fd ps__law_world (lSp ⟨Γ.P, Γ.w, Γ.K, NM⟩ sp__law_world) :=
  fn_ok3 (ar := 0) (T := T__law_world) F (fs_ok (N := NL__law_world) (by decide +kernel)) len__law_world (fun cdv A outer s H E hr => b__law_world fx hr) p__law_world
theorem f__law_world {Γ : Gam} (fx : Fx Γ) : FnN Γ NM "_law_world" 16 sp__law_world [] 2 := by
  obtain ⟨fd, F⟩ := fx.says.def_ 45 (d := d__law_world) rfl
  exact ⟨_, He.glo_ok fx.kin fx.glob (fx.says.fact 46 (f := .o (.glo "_law_world")) rfl), F.kp, ⟨fd, ps__law_world, [], [], ok__law_world fx F, rfl, fun _ => .nil, .nil, F.bindsN fun _ _ _ _ _ _ us hl => match us, hl with | [_, _], _ => rfl⟩⟩
def NL__law_table : List Str := ["_law_draw_here", "_law_stage", "_law_letters_here", "_law_many", "_law_plainly", "_law_table_here", "_law_memory", "_law_pairs", "_law_spot", "_law_letter_here"]
theorem nd__law_table : NL__law_table.Nodup := by decide +kernel
theorem b__law_table {Γ : Gam} (fx : Fx Γ) {f : Addr} {cdv : Value} {A : Around} {outer : List Env} {s : Shared} {H : Hp} {E : XK} (hr : Room (6) (A.deeper (envOfC "_law_table" (defScope (top 87)) s.heap.objs.size f cdv))) :
    PSs (cxOf CX0 Γ.P Γ.w Γ.K Γ.mg Γ.base NL__law_table "_law_table" (defScope (top 87)) f cdv A outer s H E) (defBody (top 87)) (lS ⟨Γ.P, Γ.w, Γ.K, NM⟩ T__law_table) :=
  (css_cons (cs_set (i := 3) nd__law_table (ce_op cop_add ce_int (ce_call (f__law_pick fx) hr (ca_cons (ce_var (i := 0)) (ca_cons ce_int ca_nil)))))
    (css_cons (cs_set (i := 4) nd__law_table (ce_call (f__law_pick fx) hr (ca_cons (ce_var (i := 0)) (ca_cons ce_int ca_nil))))
    (css_cons (cs_set (i := 5) nd__law_table (ce_lst ca_nil))
    (css_cons (cs_for passes_cx0 rfl (ci_rg1 (fx_range fx) (ce_var (i := 3))) (cg_name (i := 6) nd__law_table) (css_cons (cs_set (i := 7) nd__law_table (ce_lst ca_nil))
    (css_cons (cs_for passes_cx0 rfl (ci_rg1 (fx_range fx) (ce_var (i := 1))) (cg_name (i := 8) nd__law_table) (css_cons (cs_set (i := 9) nd__law_table (ce_ix (cix hr.units) (ce_var (i := 2)) (ce_call (f__law_pick fx) hr (ca_cons (ce_var (i := 0)) (ca_cons (ce_callB (cc_len [] hr.units) (fx_len fx) (ca_cons (ce_var (i := 2)) ca_nil)) ca_nil)))))
    (css_cons (cs_if (PW.pt (cw_and (ct_cmp (cop_eq hr.units) (ce_var (i := 4)) ce_int) (cw_one_and (ct_cmp (cop_eq hr.units) (ce_call (f__law_pick fx) hr (ca_cons (ce_var (i := 0)) (ca_cons ce_int ca_nil))) ce_int)))) (css_one (cs_set (i := 9) nd__law_table ce_str)) css_nil)
    (css_one (cs_expr (ce_bm bm_append (ce_var (i := 7)) (ca_cons (ce_tup (ca_cons (ce_var (i := 9)) (ca_cons (ce_call (f__law_pick fx) hr (ca_cons (ce_var (i := 0)) (ca_cons (ce_var (i := 3)) ca_nil))) ca_nil))) ca_nil)))))))
    (css_one (cs_expr (ce_bm bm_append (ce_var (i := 5)) (ca_cons (ce_callTy cc_tuple (fx_tuple fx) (ca_cons (ce_var (i := 7)) ca_nil)) ca_nil)))))))
    (css_one (cs_ret (ce_callTy cc_tuple (fx_tuple fx) (ca_cons (ce_var (i := 5)) ca_nil))))))))
def ps__law_table : List Str := ["_law_draw_here", "_law_stage", "_law_letters_here"]
theorem len__law_table : ∀ cs G R, sp__law_table cs G R → cs.length = 3 := fun cs G R h => by
  unfold sp__law_table at h
  try unfold spLenF at h
  split at h <;> first | rfl | exact h.elim
theorem ok__law_table {Γ : Gam} (fx : Fx Γ) {f : Addr} {fd : FuncData} {dvs : List V} (F : FunD Γ.K d__law_table.name d__law_table.qual (defArgs d__law_table.st) (defBody d__law_table.st) (defScope d__law_table.st) dvs [] f fd) : FnOk Γ.P Γ.w Γ.K Γ.mg Γ.base CX0 7 f fd ps__law_table (lSp ⟨Γ.P, Γ.w, Γ.K, NM⟩ sp__law_table) :=
  fn_ok3 (ar := 0) (T := T__law_table) F (fs_ok (N := NL__law_table) (by decide +kernel)) len__law_table (fun cdv A outer s H E hr => b__law_table fx hr) p__law_table
theorem f__law_table {Γ : Gam} (fx : Fx Γ) : FnN Γ NM "_law_table" 7 sp__law_table [] 3 := by
  obtain ⟨fd, F⟩ := fx.says.def_ 51 (d := d__law_table) rfl
  exact ⟨_, He.glo_ok fx.kin fx.glob (fx.says.fact 52 (f := .o (.glo "_law_table")) rfl), F.kp, ⟨fd, ps__law_table, [], [], ok__law_table fx F, rfl, fun _ => .nil, .nil, F.bindsN fun _ _ _ _ _ _ us hl => match us, hl with | [_, _, _], _ => rfl⟩⟩
def NL__law_letters : List Str := ["_law_world_here", "_law_call"]
theorem nd__law_letters : NL__law_letters.Nodup := by decide +kernel
theorem b__law_letters {Γ : Gam} (fx : Fx Γ) {f : Addr} {cdv : Value} {A : Around} {outer : List Env} {s : Shared} {H : Hp} {E : XK} (hr : Room (0) (A.deeper (envOfC "_law_letters" (defScope (top 82)) s.heap.objs.size f cdv))) :
    PSs (cxOf CX0 Γ.P Γ.w Γ.K Γ.mg Γ.base NL__law_letters "_law_letters" (defScope (top 82)) f cdv A outer s H E) (defBody (top 82)) (lS ⟨Γ.P, Γ.w, Γ.K, NM⟩ T__law_letters) :=
  (css_one (cs_ret (ce_bm bm_join ce_str (ca_cons (ce_callB (cc_sorted rfl hr.units) (fx_sorted fx) (ca_cons (ce_op cop_add (ce_lst (ca_cons ce_str ca_nil)) (ce_lc (own := [("_law_call", 1)]) rfl nd__law_letters (ci_val (ce_ix (cix hr.units) (ce_var (i := 0)) ce_int)) (blk_ok (N := NL__law_letters) (sc := defScope (top 82)) (own := [("_law_call", 1)]) (by decide +kernel)) (by decide) (fun _ _ _ _ _ => (cg_name (i := 1) nd__law_letters)) (fun _ _ _ _ _ => cts_nil) (fun _ _ _ _ _ => (ce_ix (cix hr.units) (ce_var (i := 1)) ce_int)))) ca_nil)) ca_nil))))
def ps__law_letters : List Str := ["_law_world_here"]
theorem len__law_letters : ∀ cs G R, sp__law_letters cs G R → cs.length = 1 := fun cs G R h => by
  unfold sp__law_letters at h
  try unfold spLenF at h
  split at h <;> first | rfl | exact h.elim
theorem ok__law_letters {Γ : Gam} (fx : Fx Γ) {f : Addr} {fd : FuncData} {dvs : List V} (F : FunD Γ.K d__law_letters.name d__law_letters.qual (defArgs d__law_letters.st) (defBody d__law_letters.st) (defScope d__law_letters.st) dvs [] f fd) : FnOk Γ.P Γ.w Γ.K Γ.mg Γ.base CX0 1 f fd ps__law_letters (lSp ⟨Γ.P, Γ.w, Γ.K, NM⟩ sp__law_letters) :=
  fn_ok3 (ar := 0) (T := T__law_letters) F (fs_ok (N := NL__law_letters) (by decide +kernel)) len__law_letters (fun cdv A outer s H E hr => b__law_letters fx hr) p__law_letters
theorem f__law_letters {Γ : Gam} (fx : Fx Γ) : FnN Γ NM "_law_letters" 1 sp__law_letters [] 1 := by
  obtain ⟨fd, F⟩ := fx.says.def_ 46 (d := d__law_letters) rfl
  exact ⟨_, He.glo_ok fx.kin fx.glob (fx.says.fact 47 (f := .o (.glo "_law_letters")) rfl), F.kp, ⟨fd, ps__law_letters, [], [], ok__law_letters fx F, rfl, fun _ => .nil, .nil, F.bindsN fun _ _ _ _ _ _ us hl => match us, hl with | [_], _ => rfl⟩⟩
def NL__law_row : List Str := ["_law_draw_here", "_law_stage", "_law_left", "_law_out", "_law_turn", "_law_bell"]
theorem nd__law_row : NL__law_row.Nodup := by decide +kernel
theorem b__law_row {Γ : Gam} (fx : Fx Γ) {f : Addr} {cdv : Value} {A : Around} {outer : List Env} {s : Shared} {H : Hp} {E : XK} (hr : Room (6) (A.deeper (envOfC "_law_row" (defScope (top 77)) s.heap.objs.size f cdv))) :
    PSs (cxOf CX0 Γ.P Γ.w Γ.K Γ.mg Γ.base NL__law_row "_law_row" (defScope (top 77)) f cdv A outer s H E) (defBody (top 77)) (lS ⟨Γ.P, Γ.w, Γ.K, NM⟩ T__law_row) :=
  (css_cons (cs_setLc (i := 2) (own := [("_law_bell", 5)]) rfl nd__law_row (ci_rg2 (fx_range fx) ce_int (ce_op cop_add (ce_var (i := 1)) ce_int)) (blk_ok (N := NL__law_row) (sc := defScope (top 77)) (own := [("_law_bell", 5)]) (by decide +kernel)) (by decide) (fun _ _ _ _ _ => (cg_name (i := 5) nd__law_row)) (fun _ _ _ _ _ => cts_nil) (fun _ _ _ _ _ => (ce_var (i := 5))))
    (css_cons (cs_set (i := 3) nd__law_row (ce_lst ca_nil))
    (css_cons (cs_for passes_cx0 rfl (ci_rg1 (fx_range fx) (ce_var (i := 1))) (cg_name (i := 4) nd__law_row) (css_one (cs_expr (ce_bm bm_append (ce_var (i := 3)) (ca_cons (ce_bm bm_pop (ce_var (i := 2)) (ca_cons (ce_call (f__law_pick fx) hr (ca_cons (ce_var (i := 0)) (ca_cons (ce_callB (cc_len [] hr.units) (fx_len fx) (ca_cons (ce_var (i := 2)) ca_nil)) ca_nil))) ca_nil)) ca_nil)))))
    (css_one (cs_ret (ce_callTy cc_tuple (fx_tuple fx) (ca_cons (ce_var (i := 3)) ca_nil)))))))
def ps__law_row : List Str := ["_law_draw_here", "_law_stage"]
theorem len__law_row : ∀ cs G R, sp__law_row cs G R → cs.length = 2 := fun cs G R h => by
  unfold sp__law_row at h
  try unfold spLenF at h
  split at h <;> first | rfl | exact h.elim
theorem ok__law_row {Γ : Gam} (fx : Fx Γ) {f : Addr} {fd : FuncData} {dvs : List V} (F : FunD Γ.K d__law_row.name d__law_row.qual (defArgs d__law_row.st) (defBody d__law_row.st) (defScope d__law_row.st) dvs [] f fd) : FnOk Γ.P Γ.w Γ.K Γ.mg Γ.base CX0 7 f fd ps__law_row (lSp ⟨Γ.P, Γ.w, Γ.K, NM⟩ sp__law_row) :=
  fn_ok3 (ar := 0) (T := T__law_row) F (fs_ok (N := NL__law_row) (by decide +kernel)) len__law_row (fun cdv A outer s H E hr => b__law_row fx hr) p__law_row
theorem f__law_row {Γ : Gam} (fx : Fx Γ) : FnN Γ NM "_law_row" 7 sp__law_row [] 2 := by
  obtain ⟨fd, F⟩ := fx.says.def_ 41 (d := d__law_row) rfl
  exact ⟨_, He.glo_ok fx.kin fx.glob (fx.says.fact 42 (f := .o (.glo "_law_row")) rfl), F.kp, ⟨fd, ps__law_row, [], [], ok__law_row fx F, rfl, fun _ => .nil, .nil, F.bindsN fun _ _ _ _ _ _ us hl => match us, hl with | [_, _], _ => rfl⟩⟩
def NL_is_integer : List Str := ["thing", "low", "high"]
theorem nd_is_integer : NL_is_integer.Nodup := by decide +kernel
theorem b_is_integer {Γ : Gam} (fx : Fx Γ) {f : Addr} {cdv : Value} {A : Around} {outer : List Env} {s : Shared} {H : Hp} {E : XK} (hr : Room (0) (A.deeper (envOfC "is_integer" (defScope (top 21)) s.heap.objs.size f cdv))) :
    PSs (cxOf CX0 Γ.P Γ.w Γ.K Γ.mg Γ.base NL_is_integer "is_integer" (defScope (top 21)) f cdv A outer s H E) (defBody (top 21)) (lS ⟨Γ.P, Γ.w, Γ.K, NM⟩ T_is_integer) :=
  (css_cons (cs_if (PW.pt (cw_or (ct_truth (ce_isi (fx_isinstance fx) (fx_bool fx) (ce_var (i := 0)))) (cw_one_or (ct_not (ct_truth (ce_isi (fx_isinstance fx) (fx_int fx) (ce_var (i := 0)))))))) (css_one (cs_ret ce_bl)) css_nil)
    (css_one (cs_ret (ce_chain cop_le cop_le (ce_var (i := 1)) (ce_var (i := 0)) (ce_var (i := 2))))))
def ps_is_integer : List Str := ["thing", "low", "high"]
theorem len_is_integer : ∀ cs G R, sp_is_integer cs G R → cs.length = 3 := fun cs G R h => by
  unfold sp_is_integer at h
  try unfold spLenF at h
  split at h <;> first | rfl | exact h.elim
theorem ok_is_integer {Γ : Gam} (fx : Fx Γ) {f : Addr} {fd : FuncData} {dvs : List V} (F : FunD Γ.K d_is_integer.name d_is_integer.qual (defArgs d_is_integer.st) (defBody d_is_integer.st) (defScope d_is_integer.st) dvs [] f fd) : FnOk Γ.P Γ.w Γ.K Γ.mg Γ.base CX0 1 f fd ps_is_integer (lSp ⟨Γ.P, Γ.w, Γ.K, NM⟩ sp_is_integer) :=
  fn_ok3 (ar := 0) (T := T_is_integer) F (fs_ok (N := NL_is_integer) (by decide +kernel)) len_is_integer (fun cdv A outer s H E hr => b_is_integer fx hr) p_is_integer
theorem f_is_integer {Γ : Gam} (fx : Fx Γ) : FnN Γ NM "is_integer" 1 sp_is_integer [] 3 := by
  obtain ⟨fd, F⟩ := fx.says.def_ 0 (d := d_is_integer) rfl
  exact ⟨_, He.glo_ok fx.kin fx.glob (fx.says.fact 1 (f := .o (.glo "is_integer")) rfl), F.kp, ⟨fd, ps_is_integer, [], [], ok_is_integer fx F, rfl, fun _ => .nil, .nil, F.bindsN fun _ _ _ _ _ _ us hl => match us, hl with | [_, _, _], _ => rfl⟩⟩
def NL_deep : List Str := ["thing", "level", "part"]
theorem nd_deep : NL_deep.Nodup := by decide +kernel
theorem b_deep {Γ : Gam} (fx : Fx Γ) {rec : CSp} {j : Nat} (hrec : Fx Γ → FnN Γ NM "deep" j rec [] 2) {f : Addr} {cdv : Value} {A : Around} {outer : List Env} {s : Shared} {H : Hp} {E : XK} (hr : Room (j + 1) (A.deeper (envOfC "deep" (defScope (top 23)) s.heap.objs.size f cdv))) :
    PSs (cxOf CX0 Γ.P Γ.w Γ.K Γ.mg Γ.base NL_deep "deep" (defScope (top 23)) f cdv A outer s H E) (defBody (top 23)) (lS ⟨Γ.P, Γ.w, Γ.K, NM⟩ (T_deep rec)) :=
  (css_cons (cs_if (PW.pt (cw_and (ct_truth (ce_isi2 (fx_isinstance fx) (fx_list fx) (fx_tuple fx) (ce_var (i := 0)))) (cw_one_and (ct_cmp cop_lt (ce_var (i := 1)) (ce_gint (fx_MOST_LEVELS fx)))))) (css_one (cs_ret (ce_callTy cc_tuple (fx_tuple fx) (ca_cons (ce_lc (own := [("part", 2)]) rfl nd_deep (ci_val (ce_var (i := 0))) (blk_ok (N := NL_deep) (sc := defScope (top 23)) (own := [("part", 2)]) (by decide +kernel)) (by decide) (fun _ _ _ _ _ => (cg_name (i := 2) nd_deep)) (fun _ _ _ _ _ => cts_nil) (fun _ _ _ _ _ => (ce_call (hrec fx) hr (ca_cons (ce_var (i := 2)) (ca_cons (ce_op cop_add (ce_var (i := 1)) ce_int) ca_nil))))) ca_nil)))) css_nil)
    (css_one (cs_ret (ce_var (i := 0)))))
def ps_deep : List Str := ["thing", "level"]
theorem len_deep (n : Nat) : ∀ cs G R, sp_deepN n cs G R → cs.length = 2 := fun cs G R h => by
  unfold sp_deepN at h
  split at h <;> first | rfl | exact h.elim
theorem okN_deep {Γ : Gam} (fx : Fx Γ) {rec : CSp} {j : Nat} (hrec : Fx Γ → FnN Γ NM "deep" j rec [] 2) (n : Nat) (hp : ∀ m, n = m + 1 → rec = sp_deepN m) {f : Addr} {fd : FuncData} {dvs : List V} (F : FunD Γ.K d_deep.name d_deep.qual (defArgs d_deep.st) (defBody d_deep.st) (defScope d_deep.st) dvs [] f fd) : FnOk Γ.P Γ.w Γ.K Γ.mg Γ.base CX0 (j + 1 + 1) f fd ps_deep (lSp ⟨Γ.P, Γ.w, Γ.K, NM⟩ (sp_deepN n)) :=
  fn_ok3 (ar := 0) (T := T_deep rec) F (fs_ok (N := NL_deep) (by decide +kernel)) (len_deep n) (fun cdv A outer s H E hr => b_deep fx hrec hr) (p_deepN rec n hp)
theorem z_deep {Γ : Gam} (fx : Fx Γ) : FnN Γ NM "deep" 0 (fun _ _ _ => False) [] 2 := by
  obtain ⟨fd, F⟩ := fx.says.def_ 2 (d := d_deep) rfl
  exact ⟨_, He.glo_ok fx.kin fx.glob (fx.says.fact 3 (f := .o (.glo "deep")) rfl), F.kp, dfl_fng (j := 1) (show FnOk Γ.P Γ.w Γ.K Γ.mg Γ.base CX0 0 _ fd ps_deep (lSp ⟨Γ.P, Γ.w, Γ.K, NM⟩ fun _ _ _ => False) from ⟨fun _ _ _ _ h => (by obtain ⟨_, _, _, _, _, h, _⟩ := h; exact h.elim), fun _ _ _ _ _ _ _ _ _ _ _ _ _ h => (by obtain ⟨_, _, _, _, _, h, _⟩ := h; exact h.elim)⟩) rfl (fun H => .nil) (F.binds1 2 1 (List.cons_ne_nil _ _) rfl fun _ _ _ _ _ _ _ us its h1 h2 => match us, its, h1, h2 with | [_, _], [_], _, _ => ⟨_, rfl, rfl⟩)⟩
theorem g_deep {Γ : Gam} (fx : Fx Γ) : ∀ n : Nat, FnN Γ NM "deep" (2 * (n + 1)) (sp_deepN n) [] 2
  | 0 => by
    obtain ⟨fd, F⟩ := fx.says.def_ 2 (d := d_deep) rfl
    exact ⟨_, He.glo_ok fx.kin fx.glob (fx.says.fact 3 (f := .o (.glo "deep")) rfl), F.kp, dfl_fng (j := 1) (okN_deep fx (j := 0) (fun fx => z_deep fx) 0 (fun m e => by cases e) F) rfl (fun H => .nil) (F.binds1 2 1 (List.cons_ne_nil _ _) rfl fun _ _ _ _ _ _ _ us its h1 h2 => match us, its, h1, h2 with | [_, _], [_], _, _ => ⟨_, rfl, rfl⟩)⟩
  | n + 1 => by
    obtain ⟨fd, F⟩ := fx.says.def_ 2 (d := d_deep) rfl
    exact ⟨_, He.glo_ok fx.kin fx.glob (fx.says.fact 3 (f := .o (.glo "deep")) rfl), F.kp, dfl_fng (j := 1) (okN_deep fx (j := 2 * (n + 1)) (fun fx => g_deep fx n) (n + 1) (fun m e => by cases e; rfl) F) rfl (fun H => .nil) (F.binds1 2 1 (List.cons_ne_nil _ _) rfl fun _ _ _ _ _ _ _ us its h1 h2 => match us, its, h1, h2 with | [_, _], [_], _, _ => ⟨_, rfl, rfl⟩)⟩
theorem ok_deep {Γ : Gam} (fx : Fx Γ) {f : Addr} {fd : FuncData} {dvs : List V} (F : FunD Γ.K d_deep.name d_deep.qual (defArgs d_deep.st) (defBody d_deep.st) (defScope d_deep.st) dvs [] f fd) : FnOk Γ.P Γ.w Γ.K Γ.mg Γ.base CX0 14 f fd ps_deep (lSp ⟨Γ.P, Γ.w, Γ.K, NM⟩ sp_deep) :=
  okN_deep fx (j := 2 * 6) (fun fx => g_deep fx 5) 6 (fun m e => by cases e; rfl) F
theorem f_deep_1 {Γ : Gam} (fx : Fx Γ) : FnN Γ NM "deep" 14 sp_deep [.a (.int 0)] 2 := by
  obtain ⟨fd, F⟩ := fx.says.def_ 2 (d := d_deep) rfl
  exact ⟨_, He.glo_ok fx.kin fx.glob (fx.says.fact 3 (f := .o (.glo "deep")) rfl), F.kp, dfl_fng (j := 0) (ok_deep fx F) rfl (fun H => (.cons (.a _) .nil)) (F.binds1 1 0 (List.cons_ne_nil _ _) rfl fun _ _ _ _ _ _ _ us its h1 h2 => match us, its, h1, h2 with | [_], [_], _, _ => ⟨_, rfl, rfl⟩)⟩
theorem f_deep {Γ : Gam} (fx : Fx Γ) : FnN Γ NM "deep" 14 sp_deep [] 2 := by
  obtain ⟨fd, F⟩ := fx.says.def_ 2 (d := d_deep) rfl
  exact ⟨_, He.glo_ok fx.kin fx.glob (fx.says.fact 3 (f := .o (.glo "deep")) rfl), F.kp, dfl_fng (j := 1) (ok_deep fx F) rfl (fun H => .nil) (F.binds1 2 1 (List.cons_ne_nil _ _) rfl fun _ _ _ _ _ _ _ us its h1 h2 => match us, its, h1, h2 with | [_, _], [_], _, _ => ⟨_, rfl, rfl⟩)⟩
def NL_is_rising : List Str := ["thing", "low", "high", "last", "number"]
theorem nd_is_rising : NL_is_rising.Nodup := by decide +kernel
theorem b_is_rising {Γ : Gam} (fx : Fx Γ) {f : Addr} {cdv : Value} {A : Around} {outer : List Env} {s : Shared} {H : Hp} {E : XK} (hr : Room (3) (A.deeper (envOfC "is_rising" (defScope (top 25)) s.heap.objs.size f cdv))) :
    PSs (cxOf CX0 Γ.P Γ.w Γ.K Γ.mg Γ.base NL_is_rising "is_rising" (defScope (top 25)) f cdv A outer s H E) (defBody (top 25)) (lS ⟨Γ.P, Γ.w, Γ.K, NM⟩ T_is_rising) :=
  (css_cons (cs_if (ct_not (ct_truth (ce_isi (fx_isinstance fx) (fx_tuple fx) (ce_var (i := 0))))) (css_one (cs_ret ce_bl)) css_nil)
    (css_cons (cs_set (i := 3) nd_is_rising ce_non)
    (css_cons (cs_for passes_cx0 rfl (ci_val (ce_var (i := 0))) (cg_name (i := 4) nd_is_rising) (css_cons (cs_if (ct_not (ct_truth (ce_call (f_is_integer fx) hr (ca_cons (ce_var (i := 4)) (ca_cons (ce_var (i := 1)) (ca_cons (ce_var (i := 2)) ca_nil)))))) (css_one (cs_ret ce_bl)) css_nil)
    (css_cons (cs_if (PW.pt (cw_and (ct_cmp cop_isNot (ce_var (i := 3)) ce_non) (cw_one_and (ct_cmp cop_le (ce_var (i := 4)) (ce_var (i := 3)))))) (css_one (cs_ret ce_bl)) css_nil)
    (css_one (cs_set (i := 3) nd_is_rising (ce_var (i := 4)))))))
    (css_one (cs_ret ce_bl)))))
def ps_is_rising : List Str := ["thing", "low", "high"]
theorem len_is_rising : ∀ cs G R, sp_is_rising cs G R → cs.length = 3 := fun cs G R h => by
  unfold sp_is_rising at h
  try unfold spLenF at h
  split at h <;> first | rfl | exact h.elim
theorem ok_is_rising {Γ : Gam} (fx : Fx Γ) {f : Addr} {fd : FuncData} {dvs : List V} (F : FunD Γ.K d_is_rising.name d_is_rising.qual (defArgs d_is_rising.st) (defBody d_is_rising.st) (defScope d_is_rising.st) dvs [] f fd) : FnOk Γ.P Γ.w Γ.K Γ.mg Γ.base CX0 4 f fd ps_is_rising (lSp ⟨Γ.P, Γ.w, Γ.K, NM⟩ sp_is_rising) :=
  fn_ok3 (ar := 0) (T := T_is_rising) F (fs_ok (N := NL_is_rising) (by decide +kernel)) len_is_rising (fun cdv A outer s H E hr => b_is_rising fx hr) p_is_rising
theorem f_is_rising {Γ : Gam} (fx : Fx Γ) : FnN Γ NM "is_rising" 4 sp_is_rising [] 3 := by
  obtain ⟨fd, F⟩ := fx.says.def_ 4 (d := d_is_rising) rfl
  exact ⟨_, He.glo_ok fx.kin fx.glob (fx.says.fact 5 (f := .o (.glo "is_rising")) rfl), F.kp, ⟨fd, ps_is_rising, [], [], ok_is_rising fx F, rfl, fun _ => .nil, .nil, F.bindsN fun _ _ _ _ _ _ us hl => match us, hl with | [_, _, _], _ => rfl⟩⟩
def NL_is_sound_change : List Str := ["thing", "stage", "before", "kept"]
theorem nd_is_sound_change : NL_is_sound_change.Nodup := by decide +kernel
theorem b_is_sound_change {Γ : Gam} (fx : Fx Γ) {f : Addr} {cdv : Value} {A : Around} {outer : List Env} {s : Shared} {H : Hp} {E : XK} (hr : Room (6) (A.deeper (envOfC "is_sound_change" (defScope (top 51)) s.heap.objs.size f cdv))) :
    PSs (cxOf CX0 Γ.P Γ.w Γ.K Γ.mg Γ.base NL_is_sound_change "is_sound_change" (defScope (top 51)) f cdv A outer s H E) (defBody (top 51)) (lS ⟨Γ.P, Γ.w, Γ.K, NM⟩ T_is_sound_change) :=
  (css_cons (cs_if (ct_not (ct_truth (ce_call (f_is_rising fx) hr (ca_cons (ce_var (i := 0)) (ca_cons ce_int (ca_cons (ce_var (i := 1)) ca_nil)))))) (css_one (cs_ret ce_bl)) css_nil)
    (css_cons (cs_set (i := 2) nd_is_sound_change ce_int)
    (css_cons (cs_for passes_cx0 rfl (ci_val (ce_lst (ca_star (ce_var (i := 0)) (ca_cons (ce_op cop_add (ce_var (i := 1)) ce_int) ca_nil)))) (cg_name (i := 3) nd_is_sound_change) (css_cons (cs_if (ct_cmp (cop_eq hr.units) (ce_op cop_mod (ce_op cop_sub (ce_op cop_sub (ce_var (i := 3)) (ce_var (i := 2))) ce_int) ce_int) ce_int) (css_one (cs_ret ce_bl)) css_nil)
    (css_one (cs_set (i := 2) nd_is_sound_change (ce_var (i := 3))))))
    (css_one (cs_ret ce_bl)))))
def ps_is_sound_change : List Str := ["thing", "stage"]
theorem len_is_sound_change : ∀ cs G R, sp_is_sound_change cs G R → cs.length = 2 := fun cs G R h => by
  unfold sp_is_sound_change at h
  try unfold spLenF at h
  split at h <;> first | rfl | exact h.elim
theorem ok_is_sound_change {Γ : Gam} (fx : Fx Γ) {f : Addr} {fd : FuncData} {dvs : List V} (F : FunD Γ.K d_is_sound_change.name d_is_sound_change.qual (defArgs d_is_sound_change.st) (defBody d_is_sound_change.st) (defScope d_is_sound_change.st) dvs [] f fd) : FnOk Γ.P Γ.w Γ.K Γ.mg Γ.base CX0 7 f fd ps_is_sound_change (lSp ⟨Γ.P, Γ.w, Γ.K, NM⟩ sp_is_sound_change) :=
  fn_ok3 (ar := 0) (T := T_is_sound_change) F (fs_ok (N := NL_is_sound_change) (by decide +kernel)) len_is_sound_change (fun cdv A outer s H E hr => b_is_sound_change fx hr) p_is_sound_change
theorem f_is_sound_change {Γ : Gam} (fx : Fx Γ) : FnN Γ NM "is_sound_change" 7 sp_is_sound_change [] 2 := by
  obtain ⟨fd, F⟩ := fx.says.def_ 21 (d := d_is_sound_change) rfl
  exact ⟨_, He.glo_ok fx.kin fx.glob (fx.says.fact 22 (f := .o (.glo "is_sound_change")) rfl), F.kp, ⟨fd, ps_is_sound_change, [], [], ok_is_sound_change fx F, rfl, fun _ => .nil, .nil, F.bindsN fun _ _ _ _ _ _ us hl => match us, hl with | [_, _], _ => rfl⟩⟩
def NL_check_plain : List Str := ["plain", "stage", "number", "change"]
theorem nd_check_plain : NL_check_plain.Nodup := by decide +kernel
theorem b_check_plain {Γ : Gam} (fx : Fx Γ) {f : Addr} {cdv : Value} {A : Around} {outer : List Env} {s : Shared} {H : Hp} {E : XK} (hr : Room (9) (A.deeper (envOfC "check_plain" (defScope (top 54)) s.heap.objs.size f cdv))) :
    PSs (cxOf CX0 Γ.P Γ.w Γ.K Γ.mg Γ.base NL_check_plain "check_plain" (defScope (top 54)) f cdv A outer s H E) (defBody (top 54)) (lS ⟨Γ.P, Γ.w, Γ.K, NM⟩ T_check_plain) :=
  (css_cons (cs_if (PW.pt (cw_or (ct_not (ct_truth (ce_isi (fx_isinstance fx) (fx_tuple fx) (ce_var (i := 0))))) (cw_one_or (ct_not (ct_chain cop_le cop_le ce_int (ce_callB (cc_len [] hr.units) (fx_len fx) (ca_cons (ce_var (i := 0)) ca_nil)) ce_int))))) (css_one cs_never) css_nil)
    (css_one (cs_for passes_cx0 rfl (ci_enum (fx_enumerate fx) (ce_var (i := 0))) (cg_tup rfl (cgs_cons (cg_name (i := 2) nd_check_plain) (cgs_cons (cg_name (i := 3) nd_check_plain) cgs_nil))) (css_one (cs_if (ct_not (ct_truth (ce_call (f_is_sound_change fx) hr (ca_cons (ce_var (i := 3)) (ca_cons (ce_var (i := 1)) ca_nil))))) (css_one cs_never) css_nil)))))
def ps_check_plain : List Str := ["plain", "stage"]
theorem len_check_plain : ∀ cs G R, sp_check_plain cs G R → cs.length = 2 := fun cs G R h => by
  unfold sp_check_plain at h
  try unfold spLenF at h
  split at h <;> first | rfl | exact h.elim
theorem ok_check_plain {Γ : Gam} (fx : Fx Γ) {f : Addr} {fd : FuncData} {dvs : List V} (F : FunD Γ.K d_check_plain.name d_check_plain.qual (defArgs d_check_plain.st) (defBody d_check_plain.st) (defScope d_check_plain.st) dvs [] f fd) : FnOk Γ.P Γ.w Γ.K Γ.mg Γ.base CX0 10 f fd ps_check_plain (lSp ⟨Γ.P, Γ.w, Γ.K, NM⟩ sp_check_plain) :=
  fn_ok3 (ar := 0) (T := T_check_plain) F (fs_ok (N := NL_check_plain) (by decide +kernel)) len_check_plain (fun cdv A outer s H E hr => b_check_plain fx hr) p_check_plain
theorem f_check_plain {Γ : Gam} (fx : Fx Γ) : FnN Γ NM "check_plain" 10 sp_check_plain [] 2 := by
  obtain ⟨fd, F⟩ := fx.says.def_ 23 (d := d_check_plain) rfl
  exact ⟨_, He.glo_ok fx.kin fx.glob (fx.says.fact 24 (f := .o (.glo "check_plain")) rfl), F.kp, ⟨fd, ps_check_plain, [], [], ok_check_plain fx F, rfl, fun _ => .nil, .nil, F.bindsN fun _ _ _ _ _ _ us hl => match us, hl with | [_, _], _ => rfl⟩⟩
def NL_is_letter : List Str := ["thing"]
theorem nd_is_letter : NL_is_letter.Nodup := by decide +kernel
theorem b_is_letter {Γ : Gam} (fx : Fx Γ) {f : Addr} {cdv : Value} {A : Around} {outer : List Env} {s : Shared} {H : Hp} {E : XK} (hr : Room (0) (A.deeper (envOfC "is_letter" (defScope (top 24)) s.heap.objs.size f cdv))) :
    PSs (cxOf CX0 Γ.P Γ.w Γ.K Γ.mg Γ.base NL_is_letter "is_letter" (defScope (top 24)) f cdv A outer s H E) (defBody (top 24)) (lS ⟨Γ.P, Γ.w, Γ.K, NM⟩ T_is_letter) :=
  (css_one (cs_ret (ce_and (ce_isi (fx_isinstance fx) (fx_str fx) (ce_var (i := 0))) (ce_and (ce_cmp (cop_eq hr.units) (ce_callB (cc_len [] hr.units) (fx_len fx) (ca_cons (ce_var (i := 0)) ca_nil)) ce_int) (ce_one (ce_cmp (cop_in .nil hr.units) (ce_var (i := 0)) (ce_gstr (fx_LETTERS fx))))))))
def ps_is_letter : List Str := ["thing"]
theorem len_is_letter : ∀ cs G R, sp_is_letter cs G R → cs.length = 1 := fun cs G R h => by
  unfold sp_is_letter at h
  try unfold spLenF at h
  split at h <;> first | rfl | exact h.elim
theorem ok_is_letter {Γ : Gam} (fx : Fx Γ) {f : Addr} {fd : FuncData} {dvs : List V} (F : FunD Γ.K d_is_letter.name d_is_letter.qual (defArgs d_is_letter.st) (defBody d_is_letter.st) (defScope d_is_letter.st) dvs [] f fd) : FnOk Γ.P Γ.w Γ.K Γ.mg Γ.base CX0 1 f fd ps_is_letter (lSp ⟨Γ.P, Γ.w, Γ.K, NM⟩ sp_is_letter) :=
  fn_ok3 (ar := 0) (T := T_is_letter) F (fs_ok (N := NL_is_letter) (by decide +kernel)) len_is_letter (fun cdv A outer s H E hr => b_is_letter fx hr) p_is_letter
theorem f_is_letter {Γ : Gam} (fx : Fx Γ) : FnN Γ NM "is_letter" 1 sp_is_letter [] 1 := by
  obtain ⟨fd, F⟩ := fx.says.def_ 3 (d := d_is_letter) rfl
  exact ⟨_, He.glo_ok fx.kin fx.glob (fx.says.fact 4 (f := .o (.glo "is_letter")) rfl), F.kp, ⟨fd, ps_is_letter, [], [], ok_is_letter fx F, rfl, fun _ => .nil, .nil, F.bindsN fun _ _ _ _ _ _ us hl => match us, hl with | [_], _ => rfl⟩⟩
def NL_are_changes : List Str := ["thing", "stage", "change"]
theorem nd_are_changes : NL_are_changes.Nodup := by decide +kernel
theorem b_are_changes {Γ : Gam} (fx : Fx Γ) {f : Addr} {cdv : Value} {A : Around} {outer : List Env} {s : Shared} {H : Hp} {E : XK} (hr : Room (9) (A.deeper (envOfC "are_changes" (defScope (top 53)) s.heap.objs.size f cdv))) :
    PSs (cxOf CX0 Γ.P Γ.w Γ.K Γ.mg Γ.base NL_are_changes "are_changes" (defScope (top 53)) f cdv A outer s H E) (defBody (top 53)) (lS ⟨Γ.P, Γ.w, Γ.K, NM⟩ T_are_changes) :=
  (css_cons (cs_if (PW.pt (cw_or (ct_not (ct_truth (ce_isi (fx_isinstance fx) (fx_tuple fx) (ce_var (i := 0))))) (cw_one_or (ct_not (ct_truth (ce_var (i := 0))))))) (css_one (cs_ret ce_bl)) css_nil)
    (css_cons (cs_for passes_cx0 rfl (ci_val (ce_var (i := 0))) (cg_name (i := 2) nd_are_changes) (css_one (cs_if (ct_not (ct_truth (ce_call (f_is_sound_change fx) hr (ca_cons (ce_var (i := 2)) (ca_cons (ce_var (i := 1)) ca_nil))))) (css_one (cs_ret ce_bl)) css_nil)))
    (css_one (cs_ret ce_bl))))
def ps_are_changes : List Str := ["thing", "stage"]
theorem len_are_changes : ∀ cs G R, sp_are_changes cs G R → cs.length = 2 := fun cs G R h => by
  unfold sp_are_changes at h
  try unfold spLenF at h
  split at h <;> first | rfl | exact h.elim
theorem ok_are_changes {Γ : Gam} (fx : Fx Γ) {f : Addr} {fd : FuncData} {dvs : List V} (F : FunD Γ.K d_are_changes.name d_are_changes.qual (defArgs d_are_changes.st) (defBody d_are_changes.st) (defScope d_are_changes.st) dvs [] f fd) : FnOk Γ.P Γ.w Γ.K Γ.mg Γ.base CX0 10 f fd ps_are_changes (lSp ⟨Γ.P, Γ.w, Γ.K, NM⟩ sp_are_changes) :=
  fn_ok3 (ar := 0) (T := T_are_changes) F (fs_ok (N := NL_are_changes) (by decide +kernel)) len_are_changes (fun cdv A outer s H E hr => b_are_changes fx hr) p_are_changes
theorem f_are_changes {Γ : Gam} (fx : Fx Γ) : FnN Γ NM "are_changes" 10 sp_are_changes [] 2 := by
  obtain ⟨fd, F⟩ := fx.says.def_ 22 (d := d_are_changes) rfl
  exact ⟨_, He.glo_ok fx.kin fx.glob (fx.says.fact 23 (f := .o (.glo "are_changes")) rfl), F.kp, ⟨fd, ps_are_changes, [], [], ok_are_changes fx F, rfl, fun _ => .nil, .nil, F.bindsN fun _ _ _ _ _ _ us hl => match us, hl with | [_, _], _ => rfl⟩⟩
def NL_is_call : List Str := ["thing", "stage", "size", "letter", "at", "many"]
theorem nd_is_call : NL_is_call.Nodup := by decide +kernel
theorem b_is_call {Γ : Gam} (fx : Fx Γ) {f : Addr} {cdv : Value} {A : Around} {outer : List Env} {s : Shared} {H : Hp} {E : XK} (hr : Room (12) (A.deeper (envOfC "is_call" (defScope (top 55)) s.heap.objs.size f cdv))) :
    PSs (cxOf CX0 Γ.P Γ.w Γ.K Γ.mg Γ.base NL_is_call "is_call" (defScope (top 55)) f cdv A outer s H E) (defBody (top 55)) (lS ⟨Γ.P, Γ.w, Γ.K, NM⟩ T_is_call) :=
  (css_cons (cs_if (PW.pt (cw_or (ct_not (ct_truth (ce_isi (fx_isinstance fx) (fx_tuple fx) (ce_var (i := 0))))) (cw_one_or (ct_cmp (cop_ne hr.units) (ce_callB (cc_len [] hr.units) (fx_len fx) (ca_cons (ce_var (i := 0)) ca_nil)) ce_int)))) (css_one (cs_ret ce_bl)) css_nil)
    (css_cons (cs_asg (wk := false) (ce_var (i := 0)) (cg_tup rfl (cgs_cons (cg_name (i := 3) nd_is_call) (cgs_cons (cg_name (i := 4) nd_is_call) (cgs_cons (cg_name (i := 5) nd_is_call) cgs_nil)))))
    (css_cons (cs_if (PW.pt (cw_or (ct_not (ct_truth (ce_call (f_is_letter fx) hr (ca_cons (ce_var (i := 3)) ca_nil)))) (cw_or (ct_cmp (cop_eq hr.units) (ce_var (i := 3)) ce_str) (cw_one_or (ct_not (ct_truth (ce_call (f_is_integer fx) hr (ca_cons (ce_var (i := 4)) (ca_cons ce_int (ca_cons (ce_var (i := 2)) ca_nil)))))))))) (css_one (cs_ret ce_bl)) css_nil)
    (css_one (cs_ret (ce_and (ce_call (f_are_changes fx) hr (ca_cons (ce_var (i := 5)) (ca_cons (ce_var (i := 1)) ca_nil))) (ce_one (ce_cmp cop_le (ce_op cop_add (ce_var (i := 4)) (ce_callB (cc_len [] hr.units) (fx_len fx) (ca_cons (ce_var (i := 5)) ca_nil))) (ce_var (i := 2))))))))))
def ps_is_call : List Str := ["thing", "stage", "size"]
theorem len_is_call : ∀ cs G R, sp_is_call cs G R → cs.length = 3 := fun cs G R h => by
  unfold sp_is_call at h
  try unfold spLenF at h
  split at h <;> first | rfl | exact h.elim
theorem ok_is_call {Γ : Gam} (fx : Fx Γ) {f : Addr} {fd : FuncData} {dvs : List V} (F : FunD Γ.K d_is_call.name d_is_call.qual (defArgs d_is_call.st) (defBody d_is_call.st) (defScope d_is_call.st) dvs [] f fd) : FnOk Γ.P Γ.w Γ.K Γ.mg Γ.base CX0 13 f fd ps_is_call (lSp ⟨Γ.P, Γ.w, Γ.K, NM⟩ sp_is_call) :=
  fn_ok3 (ar := 0) (T := T_is_call) F (fs_ok (N := NL_is_call) (by decide +kernel)) len_is_call (fun cdv A outer s H E hr => b_is_call fx hr) p_is_call
theorem f_is_call {Γ : Gam} (fx : Fx Γ) : FnN Γ NM "is_call" 13 sp_is_call [] 3 := by
  obtain ⟨fd, F⟩ := fx.says.def_ 24 (d := d_is_call) rfl
  exact ⟨_, He.glo_ok fx.kin fx.glob (fx.says.fact 25 (f := .o (.glo "is_call")) rfl), F.kp, ⟨fd, ps_is_call, [], [], ok_is_call fx F, rfl, fun _ => .nil, .nil, F.bindsN fun _ _ _ _ _ _ us hl => match us, hl with | [_, _, _], _ => rfl⟩⟩
def NL_check_calls : List Str := ["calls", "stage", "size", "there", "number", "call", "letter", "at", "many"]
theorem nd_check_calls : NL_check_calls.Nodup := by decide +kernel
theorem b_check_calls {Γ : Gam} (fx : Fx Γ) {f : Addr} {cdv : Value} {A : Around} {outer : List Env} {s : Shared} {H : Hp} {E : XK} (hr : Room (15) (A.deeper (envOfC "check_calls" (defScope (top 56)) s.heap.objs.size f cdv))) :
    PSs (cxOf CX0 Γ.P Γ.w Γ.K Γ.mg Γ.base NL_check_calls "check_calls" (defScope (top 56)) f cdv A outer s H E) (defBody (top 56)) (lS ⟨Γ.P, Γ.w, Γ.K, NM⟩ T_check_calls) :=
  (css_cons (cs_if (ct_not (ct_truth (ce_isi (fx_isinstance fx) (fx_tuple fx) (ce_var (i := 0))))) (css_one cs_never) css_nil)
    (css_cons (cs_for passes_cx0 rfl (ci_enum (fx_enumerate fx) (ce_var (i := 0))) (cg_tup rfl (cgs_cons (cg_name (i := 4) nd_check_calls) (cgs_cons (cg_name (i := 5) nd_check_calls) cgs_nil))) (css_one (cs_if (ct_not (ct_truth (ce_call (f_is_call fx) hr (ca_cons (ce_var (i := 5)) (ca_cons (ce_var (i := 1)) (ca_cons (ce_var (i := 2)) ca_nil)))))) (css_one cs_never) css_nil)))
    (css_cons (cs_if (ct_cmp cop_gt (ce_callB (cc_len [] hr.units) (fx_len fx) (ca_cons (ce_var (i := 0)) ca_nil)) ce_int) (css_one cs_never) css_nil)
    (css_cons (cs_set (i := 3) nd_check_calls (ce_newD (t := false)))
    (css_one (cs_for passes_cx0 rfl (ci_val (ce_var (i := 0))) (cg_tup rfl (cgs_cons (cg_name (i := 6) nd_check_calls) (cgs_cons (cg_name (i := 7) nd_check_calls) (cgs_cons (cg_name (i := 8) nd_check_calls) cgs_nil)))) (css_cons (cs_if (ct_cmp (cop_in .nil hr.units) (ce_var (i := 6)) (ce_var (i := 3))) (css_one cs_never) css_nil)
    (css_one (cs_asg (wk := false) (ce_op cop_add (ce_var (i := 7)) (ce_callB (cc_len [] hr.units) (fx_len fx) (ca_cons (ce_var (i := 8)) ca_nil))) (cg_sub (ce_var (i := 3)) (ce_var (i := 6)) (cset hr.units)))))))))))
def ps_check_calls : List Str := ["calls", "stage", "size"]
theorem len_check_calls : ∀ cs G R, sp_check_calls cs G R → cs.length = 3 := fun cs G R h => by
  unfold sp_check_calls at h
  try unfold spLenF at h
  split at h <;> first | rfl | exact h.elim
theorem ok_check_calls {Γ : Gam} (fx : Fx Γ) {f : Addr} {fd : FuncData} {dvs : List V} (F : FunD Γ.K d_check_calls.name d_check_calls.qual (defArgs d_check_calls.st) (defBody d_check_calls.st) (defScope d_check_calls.st) dvs [] f fd) : FnOk Γ.P Γ.w Γ.K Γ.mg Γ.base CX0 16 f fd ps_check_calls (lSp ⟨Γ.P, Γ.w, Γ.K, NM⟩ sp_check_calls) :=
  fn_ok3 (ar := 0) (T := T_check_calls) F (fs_ok (N := NL_check_calls) (by decide +kernel)) len_check_calls (fun cdv A outer s H E hr => b_check_calls fx hr) p_check_calls
theorem f_check_calls {Γ : Gam} (fx : Fx Γ) : FnN Γ NM "check_calls" 16 sp_check_calls [] 3 := by
  obtain ⟨fd, F⟩ := fx.says.def_ 25 (d := d_check_calls) rfl
  exact ⟨_, He.glo_ok fx.kin fx.glob (fx.says.fact 26 (f := .o (.glo "check_calls")) rfl), F.kp, ⟨fd, ps_check_calls, [], [], ok_check_calls fx F, rfl, fun _ => .nil, .nil, F.bindsN fun _ _ _ _ _ _ us hl => match us, hl with | [_, _, _], _ => rfl⟩⟩
def NL_first_row : List Str := ["stage"]
theorem nd_first_row : NL_first_row.Nodup := by decide +kernel
theorem b_first_row {Γ : Gam} (fx : Fx Γ) {f : Addr} {cdv : Value} {A : Around} {outer : List Env} {s : Shared} {H : Hp} {E : XK} (hr : Room (0) (A.deeper (envOfC "first_row" (defScope (top 28)) s.heap.objs.size f cdv))) :
    PSs (cxOf CX0 Γ.P Γ.w Γ.K Γ.mg Γ.base NL_first_row "first_row" (defScope (top 28)) f cdv A outer s H E) (defBody (top 28)) (lS ⟨Γ.P, Γ.w, Γ.K, NM⟩ T_first_row) :=
  (css_one (cs_ret (ce_tupRg rfl (fx_tuple fx) (cr_2 (fx_range fx) ce_int (ce_op cop_add (ce_var (i := 0)) ce_int)))))
def ps_first_row : List Str := ["stage"]
theorem len_first_row : ∀ cs G R, sp_first_row cs G R → cs.length = 1 := fun cs G R h => by
  unfold sp_first_row at h
  try unfold spLenF at h
  split at h <;> first | rfl | exact h.elim
theorem ok_first_row {Γ : Gam} (fx : Fx Γ) {f : Addr} {fd : FuncData} {dvs : List V} (F : FunD Γ.K d_first_row.name d_first_row.qual (defArgs d_first_row.st) (defBody d_first_row.st) (defScope d_first_row.st) dvs [] f fd) : FnOk Γ.P Γ.w Γ.K Γ.mg Γ.base CX0 1 f fd ps_first_row (lSp ⟨Γ.P, Γ.w, Γ.K, NM⟩ sp_first_row) :=
  fn_ok3 (ar := 0) (T := T_first_row) F (fs_ok (N := NL_first_row) (by decide +kernel)) len_first_row (fun cdv A outer s H E hr => b_first_row fx hr) p_first_row
theorem f_first_row {Γ : Gam} (fx : Fx Γ) : FnN Γ NM "first_row" 1 sp_first_row [] 1 := by
  obtain ⟨fd, F⟩ := fx.says.def_ 6 (d := d_first_row) rfl
  exact ⟨_, He.glo_ok fx.kin fx.glob (fx.says.fact 7 (f := .o (.glo "first_row")) rfl), F.kp, ⟨fd, ps_first_row, [], [], ok_first_row fx F, rfl, fun _ => .nil, .nil, F.bindsN fun _ _ _ _ _ _ us hl => match us, hl with | [_], _ => rfl⟩⟩
def NL_times : List Str := ["row", "move", "place"]
theorem nd_times : NL_times.Nodup := by decide +kernel
theorem b_times {Γ : Gam} (fx : Fx Γ) {f : Addr} {cdv : Value} {A : Around} {outer : List Env} {s : Shared} {H : Hp} {E : XK} (hr : Room (0) (A.deeper (envOfC "times" (defScope (top 29)) s.heap.objs.size f cdv))) :
    PSs (cxOf CX0 Γ.P Γ.w Γ.K Γ.mg Γ.base NL_times "times" (defScope (top 29)) f cdv A outer s H E) (defBody (top 29)) (lS ⟨Γ.P, Γ.w, Γ.K, NM⟩ T_times) :=
  (css_one (cs_ret (ce_callTy cc_tuple (fx_tuple fx) (ca_cons (ce_lc (own := [("place", 2)]) rfl nd_times (ci_val (ce_var (i := 1))) (blk_ok (N := NL_times) (sc := defScope (top 29)) (own := [("place", 2)]) (by decide +kernel)) (by decide) (fun _ _ _ _ _ => (cg_name (i := 2) nd_times)) (fun _ _ _ _ _ => cts_nil) (fun _ _ _ _ _ => (ce_ix (cix hr.units) (ce_var (i := 0)) (ce_op cop_sub (ce_var (i := 2)) ce_int)))) ca_nil))))
def ps_times : List Str := ["row", "move"]
theorem len_times : ∀ cs G R, sp_times cs G R → cs.length = 2 := fun cs G R h => by
  unfold sp_times at h
  try unfold spLenF at h
  split at h <;> first | rfl | exact h.elim
theorem ok_times {Γ : Gam} (fx : Fx Γ) {f : Addr} {fd : FuncData} {dvs : List V} (F : FunD Γ.K d_times.name d_times.qual (defArgs d_times.st) (defBody d_times.st) (defScope d_times.st) dvs [] f fd) : FnOk Γ.P Γ.w Γ.K Γ.mg Γ.base CX0 1 f fd ps_times (lSp ⟨Γ.P, Γ.w, Γ.K, NM⟩ sp_times) :=
  fn_ok3 (ar := 0) (T := T_times) F (fs_ok (N := NL_times) (by decide +kernel)) len_times (fun cdv A outer s H E hr => b_times fx hr) p_times
theorem f_times {Γ : Gam} (fx : Fx Γ) : FnN Γ NM "times" 1 sp_times [] 2 := by
  obtain ⟨fd, F⟩ := fx.says.def_ 7 (d := d_times) rfl
  exact ⟨_, He.glo_ok fx.kin fx.glob (fx.says.fact 8 (f := .o (.glo "times")) rfl), F.kp, ⟨fd, ps_times, [], [], ok_times fx F, rfl, fun _ => .nil, .nil, F.bindsN fun _ _ _ _ _ _ us hl => match us, hl with | [_, _], _ => rfl⟩⟩
def NL_change_move : List Str := ["change", "stage", "out", "place"]
theorem nd_change_move : NL_change_move.Nodup := by decide +kernel
theorem b_change_move {Γ : Gam} (fx : Fx Γ) {f : Addr} {cdv : Value} {A : Around} {outer : List Env} {s : Shared} {H : Hp} {E : XK} (hr : Room (0) (A.deeper (envOfC "change_move" (defScope (top 31)) s.heap.objs.size f cdv))) :
    PSs (cxOf CX0 Γ.P Γ.w Γ.K Γ.mg Γ.base NL_change_move "change_move" (defScope (top 31)) f cdv A outer s H E) (defBody (top 31)) (lS ⟨Γ.P, Γ.w, Γ.K, NM⟩ T_change_move) :=
  (css_cons (cs_set (i := 2) nd_change_move (ce_lstRg rfl (fx_list fx) (cr_2 (fx_range fx) ce_int (ce_op cop_add (ce_var (i := 1)) ce_int))))
    (css_cons (cs_set (i := 3) nd_change_move ce_int)
    (css_cons (cs_while passes_cx0 (ct_cmp cop_le (ce_var (i := 3)) (ce_var (i := 1))) (css_one (cs_if (ct_cmp (cop_in .nil hr.units) (ce_var (i := 3)) (ce_var (i := 0))) (css_one (cs_aug (i := 3) nd_change_move ce_int cip_add)) (css_cons (cs_asg (wk := false) (ce_op cop_add (ce_var (i := 3)) ce_int) (cg_sub (ce_var (i := 2)) (ce_op cop_sub (ce_var (i := 3)) ce_int) (cset hr.units)))
    (css_cons (cs_asg (wk := false) (ce_var (i := 3)) (cg_sub (ce_var (i := 2)) (ce_var (i := 3)) (cset hr.units)))
    (css_one (cs_aug (i := 3) nd_change_move ce_int cip_add)))))))
    (css_one (cs_ret (ce_callTy cc_tuple (fx_tuple fx) (ca_cons (ce_var (i := 2)) ca_nil)))))))
def ps_change_move : List Str := ["change", "stage"]
theorem len_change_move : ∀ cs G R, sp_change_move cs G R → cs.length = 2 := fun cs G R h => by
  unfold sp_change_move at h
  try unfold spLenF at h
  split at h <;> first | rfl | exact h.elim
theorem ok_change_move {Γ : Gam} (fx : Fx Γ) {f : Addr} {fd : FuncData} {dvs : List V} (F : FunD Γ.K d_change_move.name d_change_move.qual (defArgs d_change_move.st) (defBody d_change_move.st) (defScope d_change_move.st) dvs [] f fd) : FnOk Γ.P Γ.w Γ.K Γ.mg Γ.base CX0 1 f fd ps_change_move (lSp ⟨Γ.P, Γ.w, Γ.K, NM⟩ sp_change_move) :=
  fn_ok3 (ar := 0) (T := T_change_move) F (fs_ok (N := NL_change_move) (by decide +kernel)) len_change_move (fun cdv A outer s H E hr => b_change_move fx hr) p_change_move
theorem f_change_move {Γ : Gam} (fx : Fx Γ) : FnN Γ NM "change_move" 1 sp_change_move [] 2 := by
  obtain ⟨fd, F⟩ := fx.says.def_ 9 (d := d_change_move) rfl
  exact ⟨_, He.glo_ok fx.kin fx.glob (fx.says.fact 10 (f := .o (.glo "change_move")) rfl), F.kp, ⟨fd, ps_change_move, [], [], ok_change_move fx F, rfl, fun _ => .nil, .nil, F.bindsN fun _ _ _ _ _ _ us hl => match us, hl with | [_, _], _ => rfl⟩⟩
def NL_rows_through : List Str := ["stage", "lead", "rows", "row", "change"]
theorem nd_rows_through : NL_rows_through.Nodup := by decide +kernel
theorem b_rows_through {Γ : Gam} (fx : Fx Γ) {f : Addr} {cdv : Value} {A : Around} {outer : List Env} {s : Shared} {H : Hp} {E : XK} (hr : Room (3) (A.deeper (envOfC "rows_through" (defScope (top 57)) s.heap.objs.size f cdv))) :
    PSs (cxOf CX0 Γ.P Γ.w Γ.K Γ.mg Γ.base NL_rows_through "rows_through" (defScope (top 57)) f cdv A outer s H E) (defBody (top 57)) (lS ⟨Γ.P, Γ.w, Γ.K, NM⟩ T_rows_through) :=
  (css_cons (cs_set (i := 2) nd_rows_through (ce_lst ca_nil))
    (css_cons (cs_set (i := 3) nd_rows_through (ce_call (f_first_row fx) hr (ca_cons (ce_var (i := 0)) ca_nil)))
    (css_cons (cs_for passes_cx0 rfl (ci_val (ce_var (i := 1))) (cg_name (i := 4) nd_rows_through) (css_cons (cs_expr (ce_bm bm_append (ce_var (i := 2)) (ca_cons (ce_var (i := 3)) ca_nil)))
    (css_one (cs_set (i := 3) nd_rows_through (ce_call (f_times fx) hr (ca_cons (ce_var (i := 3)) (ca_cons (ce_call (f_change_move fx) hr (ca_cons (ce_var (i := 4)) (ca_cons (ce_var (i := 0)) ca_nil))) ca_nil)))))))
    (css_one (cs_ret (ce_tup (ca_cons (ce_callTy cc_tuple (fx_tuple fx) (ca_cons (ce_var (i := 2)) ca_nil)) (ca_cons (ce_var (i := 3)) ca_nil))))))))
def ps_rows_through : List Str := ["stage", "lead"]
theorem len_rows_through : ∀ cs G R, sp_rows_through cs G R → cs.length = 2 := fun cs G R h => by
  unfold sp_rows_through at h
  try unfold spLenF at h
  split at h <;> first | rfl | exact h.elim
theorem ok_rows_through {Γ : Gam} (fx : Fx Γ) {f : Addr} {fd : FuncData} {dvs : List V} (F : FunD Γ.K d_rows_through.name d_rows_through.qual (defArgs d_rows_through.st) (defBody d_rows_through.st) (defScope d_rows_through.st) dvs [] f fd) : FnOk Γ.P Γ.w Γ.K Γ.mg Γ.base CX0 4 f fd ps_rows_through (lSp ⟨Γ.P, Γ.w, Γ.K, NM⟩ sp_rows_through) :=
  fn_ok3 (ar := 0) (T := T_rows_through) F (fs_ok (N := NL_rows_through) (by decide +kernel)) len_rows_through (fun cdv A outer s H E hr => b_rows_through fx hr) p_rows_through
theorem f_rows_through {Γ : Gam} (fx : Fx Γ) : FnN Γ NM "rows_through" 4 sp_rows_through [] 2 := by
  obtain ⟨fd, F⟩ := fx.says.def_ 26 (d := d_rows_through) rfl
  exact ⟨_, He.glo_ok fx.kin fx.glob (fx.says.fact 27 (f := .o (.glo "rows_through")) rfl), F.kp, ⟨fd, ps_rows_through, [], [], ok_rows_through fx F, rfl, fun _ => .nil, .nil, F.bindsN fun _ _ _ _ _ _ us hl => match us, hl with | [_, _], _ => rfl⟩⟩
def NL_Method___init__ : List Str := ["self", "stage", "plain", "calls", "lead", "kept", "leads", "moves", "bodies", "letter", "at", "many", "rows", "end"]
theorem nd_Method___init__ : NL_Method___init__.Nodup := by decide +kernel
theorem b_Method___init__ {Γ : Gam} (fx : Fx Γ) {f : Addr} {cdv : Value} {A : Around} {outer : List Env} {s : Shared} {H : Hp} {E : XK} (hr : Room (18) (A.deeper (envOfC "Method.__init__" (defScope (inClass (top 58) 1)) s.heap.objs.size f cdv))) :
    PSs (cxOf CX0 Γ.P Γ.w Γ.K Γ.mg Γ.base NL_Method___init__ "Method.__init__" (defScope (inClass (top 58) 1)) f cdv A outer s H E) (defBody (inClass (top 58) 1)) (lS ⟨Γ.P, Γ.w, Γ.K, NM⟩ T_Method___init__) :=
  (css_cons (cs_if (ct_not (ct_truth (ce_call (f_is_integer fx) hr (ca_cons (ce_var (i := 1)) (ca_cons ce_int (ca_cons ce_int ca_nil)))))) (css_one cs_never) css_nil)
    (css_cons (cs_set (i := 4) nd_Method___init__ (ce_call (f_deep_1 fx) hr (ca_cons (ce_var (i := 2)) ca_nil)))
    (css_cons (cs_expr (ce_call (f_check_plain fx) hr (ca_cons (ce_var (i := 4)) (ca_cons (ce_var (i := 1)) ca_nil))))
    (css_cons (cs_set (i := 5) nd_Method___init__ (ce_call (f_deep_1 fx) hr (ca_cons (ce_var (i := 3)) ca_nil)))
    (css_cons (cs_expr (ce_call (f_check_calls fx) hr (ca_cons (ce_var (i := 5)) (ca_cons (ce_var (i := 1)) (ca_cons (ce_callB (cc_len [] hr.units) (fx_len fx) (ca_cons (ce_var (i := 4)) ca_nil)) ca_nil)))))
    (css_cons (cs_fld (cn := c_Method) (f := a_stage) nmA_nd (na_Method_stage fx) (ce_var (i := 0)) (ce_var (i := 1)))
    (css_cons (cs_fld (cn := c_Method) (f := a_plain) nmA_nd (na_Method_plain fx) (ce_var (i := 0)) (ce_var (i := 4)))
    (css_cons (cs_fld (cn := c_Method) (f := a_calls) nmA_nd (na_Method_calls fx) (ce_var (i := 0)) (ce_var (i := 5)))
    (css_cons (cs_fld (cn := c_Method) (f := a_opening) nmA_nd (na_Method_opening fx) (ce_var (i := 0)) (ce_call (f_first_row fx) hr (ca_cons (ce_var (i := 1)) ca_nil)))
    (css_cons (cs_set (i := 6) nd_Method___init__ (ce_dic1 (t := false) hr.units ce_str (ce_var (i := 4))))
    (css_cons (cs_for passes_cx0 rfl (ci_val (ce_var (i := 5))) (cg_tup rfl (cgs_cons (cg_name (i := 9) nd_Method___init__) (cgs_cons (cg_name (i := 10) nd_Method___init__) (cgs_cons (cg_name (i := 11) nd_Method___init__) cgs_nil)))) (css_one (cs_asg (wk := false) (ce_op cop_add (ce_op cop_add (ce_slice csl (ce_var (i := 4)) co_none (co_some (ce_var (i := 10)))) (ce_var (i := 11))) (ce_slice csl (ce_var (i := 4)) (co_some (ce_op cop_add (ce_var (i := 10)) (ce_callB (cc_len [] hr.units) (fx_len fx) (ca_cons (ce_var (i := 11)) ca_nil)))) co_none)) (cg_sub (ce_var (i := 6)) (ce_var (i := 9)) (cset hr.units)))))
    (css_cons (cs_set (i := 7) nd_Method___init__ (ce_newD (t := false)))
    (css_cons (cs_set (i := 8) nd_Method___init__ (ce_newD (t := false)))
    (css_cons (cs_for passes_cx0 rfl (ci_val (ce_callB (cc_sorted rfl hr.units) (fx_sorted fx) (ca_cons (ce_var (i := 6)) ca_nil))) (cg_name (i := 9) nd_Method___init__) (css_cons (cs_asg (wk := false) (ce_call (f_rows_through fx) hr (ca_cons (ce_var (i := 1)) (ca_cons (ce_ix (cix hr.units) (ce_var (i := 6)) (ce_var (i := 9))) ca_nil))) (cg_tup rfl (cgs_cons (cg_name (i := 12) nd_Method___init__) (cgs_cons (cg_name (i := 13) nd_Method___init__) cgs_nil))))
    (css_cons (cs_asg (wk := false) (ce_var (i := 12)) (cg_sub (ce_var (i := 8)) (ce_var (i := 9)) (cset hr.units)))
    (css_one (cs_asg (wk := false) (ce_var (i := 13)) (cg_sub (ce_var (i := 7)) (ce_var (i := 9)) (cset hr.units)))))))
    (css_cons (cs_fld (cn := c_Method) (f := a_leads) nmA_nd (na_Method_leads fx) (ce_var (i := 0)) (ce_var (i := 6)))
    (css_cons (cs_fld (cn := c_Method) (f := a_row_of_letters) nmA_nd (na_Method_row_of_letters fx) (ce_var (i := 0)) (ce_callTy cc_tuple (fx_tuple fx) (ca_cons (ce_callB (cc_sorted rfl hr.units) (fx_sorted fx) (ca_cons (ce_var (i := 6)) ca_nil)) ca_nil)))
    (css_cons (cs_fld (cn := c_Method) (f := a_moves) nmA_nd (na_Method_moves fx) (ce_var (i := 0)) (ce_var (i := 7)))
    (css_one (cs_fld (cn := c_Method) (f := a_bodies) nmA_nd (na_Method_bodies fx) (ce_var (i := 0)) (ce_var (i := 8)))))))))))))))))))))
def ps_Method___init__ : List Str := ["self", "stage", "plain", "calls"]
theorem len_Method___init__ : ∀ cs G R, sp_Method___init__ cs G R → cs.length = 4 := fun cs G R h => by
  unfold sp_Method___init__ at h
  try unfold spLenF at h
  split at h <;> first | rfl | exact h.elim
theorem ok_Method___init__ {Γ : Gam} (fx : Fx Γ) {f : Addr} {fd : FuncData} {dvs : List V} (F : FunD Γ.K d_Method___init__.name d_Method___init__.qual (defArgs d_Method___init__.st) (defBody d_Method___init__.st) (defScope d_Method___init__.st) dvs [] f fd) : FnOk Γ.P Γ.w Γ.K Γ.mg Γ.base CX0 19 f fd ps_Method___init__ (lSp ⟨Γ.P, Γ.w, Γ.K, NM⟩ sp_Method___init__) :=
  fn_ok3 (ar := 0) (T := T_Method___init__) F (fs_ok (N := NL_Method___init__) (by decide +kernel)) len_Method___init__ (fun cdv A outer s H E hr => b_Method___init__ fx hr) p_Method___init__
theorem m_Method {Γ : Gam} (fx : Fx Γ) : MkN Γ NM c_Method 19 sp_Method___init__ [] 4 := by
  obtain ⟨fd, F⟩ := fx.says.def_ 70 (d := d_Method___init__) rfl
  exact ⟨_, He.glo_ok fx.kin fx.glob (fx.says.fact 88 (f := .o (.glo "Method")) rfl), He.mkr_ok (x := "Method") (fx.says.fact 90 (f := .o (.mkr "Method")) rfl), He.cls_ok (x := "Method") (fx.says.fact 89 (f := .o (.cls "Method")) rfl), dfl_fng (j := 1) (ok_Method___init__ fx F) rfl (fun H => .nil) (F.binds1 4 1 (List.cons_ne_nil _ _) rfl fun _ _ _ _ _ _ _ us its h1 h2 => match us, its, h1, h2 with | [_, _, _, _], [_], _, _ => ⟨_, rfl, rfl⟩)⟩
def NL__law_listed : List Str := ["_law_thing", "_law_part"]
theorem nd__law_listed : NL__law_listed.Nodup := by decide +kernel
theorem b__law_listed {Γ : Gam} (fx : Fx Γ) {rec : CSp} {j : Nat} (hrec : Fx Γ → FnN Γ NM "_law_listed" j rec [] 1) {f : Addr} {cdv : Value} {A : Around} {outer : List Env} {s : Shared} {H : Hp} {E : XK} (hr : Room (j + 1) (A.deeper (envOfC "_law_listed" (defScope (top 86)) s.heap.objs.size f cdv))) :
    PSs (cxOf CX0 Γ.P Γ.w Γ.K Γ.mg Γ.base NL__law_listed "_law_listed" (defScope (top 86)) f cdv A outer s H E) (defBody (top 86)) (lS ⟨Γ.P, Γ.w, Γ.K, NM⟩ (T__law_listed rec)) :=
  (css_cons (cs_if (PW.pt (cw_or (ct_truth (ce_isi (fx_isinstance fx) (fx_tuple fx) (ce_var (i := 0)))) (cw_one_or (ct_truth (ce_isi (fx_isinstance fx) (fx_list fx) (ce_var (i := 0))))))) (css_one (cs_ret (ce_lc (own := [("_law_part", 1)]) rfl nd__law_listed (ci_val (ce_var (i := 0))) (blk_ok (N := NL__law_listed) (sc := defScope (top 86)) (own := [("_law_part", 1)]) (by decide +kernel)) (by decide) (fun _ _ _ _ _ => (cg_name (i := 1) nd__law_listed)) (fun _ _ _ _ _ => cts_nil) (fun _ _ _ _ _ => (ce_call (hrec fx) hr (ca_cons (ce_var (i := 1)) ca_nil)))))) css_nil)
    (css_one (cs_ret (ce_var (i := 0)))))
def ps__law_listed : List Str := ["_law_thing"]
theorem len__law_listed (n : Nat) : ∀ cs G R, sp__law_listedN n cs G R → cs.length = 1 := fun cs G R h => by
  unfold sp__law_listedN at h
  split at h <;> first | rfl | exact h.elim
theorem okN__law_listed {Γ : Gam} (fx : Fx Γ) {rec : CSp} {j : Nat} (hrec : Fx Γ → FnN Γ NM "_law_listed" j rec [] 1) (n : Nat) (hp : ∀ m, n = m + 1 → rec = sp__law_listedN m) {f : Addr} {fd : FuncData} {dvs : List V} (F : FunD Γ.K d__law_listed.name d__law_listed.qual (defArgs d__law_listed.st) (defBody d__law_listed.st) (defScope d__law_listed.st) dvs [] f fd) : FnOk Γ.P Γ.w Γ.K Γ.mg Γ.base CX0 (j + 1 + 1) f fd ps__law_listed (lSp ⟨Γ.P, Γ.w, Γ.K, NM⟩ (sp__law_listedN n)) :=
  fn_ok3 (ar := 0) (T := T__law_listed rec) F (fs_ok (N := NL__law_listed) (by decide +kernel)) (len__law_listed n) (fun cdv A outer s H E hr => b__law_listed fx hrec hr) (p__law_listedN rec n hp)
theorem z__law_listed {Γ : Gam} (fx : Fx Γ) : FnN Γ NM "_law_listed" 0 (fun _ _ _ => False) [] 1 := by
  obtain ⟨fd, F⟩ := fx.says.def_ 50 (d := d__law_listed) rfl
  exact ⟨_, He.glo_ok fx.kin fx.glob (fx.says.fact 51 (f := .o (.glo "_law_listed")) rfl), F.kp, ⟨fd, ps__law_listed, [], [], show FnOk Γ.P Γ.w Γ.K Γ.mg Γ.base CX0 0 _ fd ps__law_listed (lSp ⟨Γ.P, Γ.w, Γ.K, NM⟩ fun _ _ _ => False) from ⟨fun _ _ _ _ h => (by obtain ⟨_, _, _, _, _, h, _⟩ := h; exact h.elim), fun _ _ _ _ _ _ _ _ _ _ _ _ _ h => (by obtain ⟨_, _, _, _, _, h, _⟩ := h; exact h.elim)⟩, rfl, fun _ => .nil, .nil, F.bindsN fun _ _ _ _ _ _ us hl => match us, hl with | [_], _ => rfl⟩⟩
theorem g__law_listed {Γ : Gam} (fx : Fx Γ) : ∀ n : Nat, FnN Γ NM "_law_listed" (2 * (n + 1)) (sp__law_listedN n) [] 1
  | 0 => by
    obtain ⟨fd, F⟩ := fx.says.def_ 50 (d := d__law_listed) rfl
    exact ⟨_, He.glo_ok fx.kin fx.glob (fx.says.fact 51 (f := .o (.glo "_law_listed")) rfl), F.kp, ⟨fd, ps__law_listed, [], [], okN__law_listed fx (j := 0) (fun fx => z__law_listed fx) 0 (fun m e => by cases e) F, rfl, fun _ => .nil, .nil, F.bindsN fun _ _ _ _ _ _ us hl => match us, hl with | [_], _ => rfl⟩⟩
  | n + 1 => by
    obtain ⟨fd, F⟩ := fx.says.def_ 50 (d := d__law_listed) rfl
    exact ⟨_, He.glo_ok fx.kin fx.glob (fx.says.fact 51 (f := .o (.glo "_law_listed")) rfl), F.kp, ⟨fd, ps__law_listed, [], [], okN__law_listed fx (j := 2 * (n + 1)) (fun fx => g__law_listed fx n) (n + 1) (fun m e => by cases e; rfl) F, rfl, fun _ => .nil, .nil, F.bindsN fun _ _ _ _ _ _ us hl => match us, hl with | [_], _ => rfl⟩⟩
theorem ok__law_listed {Γ : Gam} (fx : Fx Γ) {f : Addr} {fd : FuncData} {dvs : List V} (F : FunD Γ.K d__law_listed.name d__law_listed.qual (defArgs d__law_listed.st) (defBody d__law_listed.st) (defScope d__law_listed.st) dvs [] f fd) : FnOk Γ.P Γ.w Γ.K Γ.mg Γ.base CX0 10 f fd ps__law_listed (lSp ⟨Γ.P, Γ.w, Γ.K, NM⟩ sp__law_listed) :=
  okN__law_listed fx (j := 2 * 4) (fun fx => g__law_listed fx 3) 4 (fun m e => by cases e; rfl) F
theorem f__law_listed {Γ : Gam} (fx : Fx Γ) : FnN Γ NM "_law_listed" 10 sp__law_listed [] 1 := by
  obtain ⟨fd, F⟩ := fx.says.def_ 50 (d := d__law_listed) rfl
  exact ⟨_, He.glo_ok fx.kin fx.glob (fx.says.fact 51 (f := .o (.glo "_law_listed")) rfl), F.kp, ⟨fd, ps__law_listed, [], [], ok__law_listed fx F, rfl, fun _ => .nil, .nil, F.bindsN fun _ _ _ _ _ _ us hl => match us, hl with | [_], _ => rfl⟩⟩
def NL_Method___contains__ : List Str := ["self", "letter"]
theorem nd_Method___contains__ : NL_Method___contains__.Nodup := by decide +kernel
theorem b_Method___contains__ {Γ : Gam} (fx : Fx Γ) {f : Addr} {cdv : Value} {A : Around} {outer : List Env} {s : Shared} {H : Hp} {E : XK} (hr : Room (0) (A.deeper (envOfC "Method.__contains__" (defScope (inClass (top 58) 8)) s.heap.objs.size f cdv))) :
    PSs (cxOf CX0 Γ.P Γ.w Γ.K Γ.mg Γ.base NL_Method___contains__ "Method.__contains__" (defScope (inClass (top 58) 8)) f cdv A outer s H E) (defBody (inClass (top 58) 8)) (lS ⟨Γ.P, Γ.w, Γ.K, NM⟩ T_Method___contains__) :=
  (css_one (cs_ret (ce_and (ce_isi (fx_isinstance fx) (fx_str fx) (ce_var (i := 1))) (ce_one (ce_cmp (cop_in .nil hr.units) (ce_var (i := 1)) (ce_attr .nil hr (ce_var (i := 0)) nmA_nd))))))
def ps_Method___contains__ : List Str := ["self", "letter"]
theorem len_Method___contains__ : ∀ cs G R, sp_Method___contains__ cs G R → cs.length = 2 := fun cs G R h => by
  unfold sp_Method___contains__ at h
  try unfold spLenF at h
  split at h <;> first | rfl | exact h.elim
theorem ok_Method___contains__ {Γ : Gam} (fx : Fx Γ) {f : Addr} {fd : FuncData} {dvs : List V} (F : FunD Γ.K d_Method___contains__.name d_Method___contains__.qual (defArgs d_Method___contains__.st) (defBody d_Method___contains__.st) (defScope d_Method___contains__.st) dvs [] f fd) : FnOk Γ.P Γ.w Γ.K Γ.mg Γ.base CX0 1 f fd ps_Method___contains__ (lSp ⟨Γ.P, Γ.w, Γ.K, NM⟩ sp_Method___contains__) :=
  fn_ok3 (ar := 0) (T := T_Method___contains__) F (fs_ok (N := NL_Method___contains__) (by decide +kernel)) len_Method___contains__ (fun cdv A outer s H E hr => b_Method___contains__ fx hr) p_Method___contains__
theorem f_Method___contains__ {Γ : Gam} (fx : Fx Γ) : MeN Γ NM c_Method "__contains__" 1 sp_Method___contains__ [] 2 := by
  obtain ⟨fd, F⟩ := fx.says.def_ 75 (d := d_Method___contains__) rfl
  exact ⟨_, He.meth_ok (x := "Method") (m := "__contains__") (fx.says.fact 104 (f := .o (.meth "Method" "__contains__")) rfl), ⟨fd, ps_Method___contains__, [], [], ok_Method___contains__ fx F, rfl, fun _ => .nil, .nil, F.bindsN fun _ _ _ _ _ _ us hl => match us, hl with | [_, _], _ => rfl⟩⟩
def NL_is_table_row : List Str := ["thing", "method", "many", "pair", "letter", "memory"]
theorem nd_is_table_row : NL_is_table_row.Nodup := by decide +kernel
theorem b_is_table_row {Γ : Gam} (fx : Fx Γ) {f : Addr} {cdv : Value} {A : Around} {outer : List Env} {s : Shared} {H : Hp} {E : XK} (hr : Room (3) (A.deeper (envOfC "is_table_row" (defScope (top 47)) s.heap.objs.size f cdv))) :
    PSs (cxOf CX0 Γ.P Γ.w Γ.K Γ.mg Γ.base NL_is_table_row "is_table_row" (defScope (top 47)) f cdv A outer s H E) (defBody (top 47)) (lS ⟨Γ.P, Γ.w, Γ.K, NM⟩ T_is_table_row) :=
  (css_cons (cs_if (PW.pt (cw_or (ct_not (ct_truth (ce_isi (fx_isinstance fx) (fx_tuple fx) (ce_var (i := 0))))) (cw_one_or (ct_cmp (cop_ne hr.units) (ce_callB (cc_len [] hr.units) (fx_len fx) (ca_cons (ce_var (i := 0)) ca_nil)) (ce_attr .nil hr (ce_var (i := 1)) nmA_nd))))) (css_one (cs_ret ce_bl)) css_nil)
    (css_cons (cs_for passes_cx0 rfl (ci_val (ce_var (i := 0))) (cg_name (i := 3) nd_is_table_row) (css_cons (cs_if (PW.pt (cw_or (ct_not (ct_truth (ce_isi (fx_isinstance fx) (fx_tuple fx) (ce_var (i := 3))))) (cw_one_or (ct_cmp (cop_ne hr.units) (ce_callB (cc_len [] hr.units) (fx_len fx) (ca_cons (ce_var (i := 3)) ca_nil)) ce_int)))) (css_one (cs_ret ce_bl)) css_nil)
    (css_cons (cs_asg (wk := false) (ce_var (i := 3)) (cg_tup rfl (cgs_cons (cg_name (i := 4) nd_is_table_row) (cgs_cons (cg_name (i := 5) nd_is_table_row) cgs_nil))))
    (css_one (cs_if (PW.pt (cw_or (ct_cmp (cop_notIn (.cons (f_Method___contains__ fx) hr .nil) hr.units) (ce_var (i := 4)) (ce_var (i := 1))) (cw_one_or (ct_not (ct_truth (ce_call (f_is_integer fx) hr (ca_cons (ce_var (i := 5)) (ca_cons ce_int (ca_cons (ce_op cop_sub (ce_var (i := 2)) ce_int) ca_nil))))))))) (css_one (cs_ret ce_bl)) css_nil)))))
    (css_one (cs_ret ce_bl))))
def ps_is_table_row : List Str := ["thing", "method", "many"]
theorem len_is_table_row : ∀ cs G R, sp_is_table_row cs G R → cs.length = 3 := fun cs G R h => by
  unfold sp_is_table_row at h
  try unfold spLenF at h
  split at h <;> first | rfl | exact h.elim
theorem ok_is_table_row {Γ : Gam} (fx : Fx Γ) {f : Addr} {fd : FuncData} {dvs : List V} (F : FunD Γ.K d_is_table_row.name d_is_table_row.qual (defArgs d_is_table_row.st) (defBody d_is_table_row.st) (defScope d_is_table_row.st) dvs [] f fd) : FnOk Γ.P Γ.w Γ.K Γ.mg Γ.base CX0 4 f fd ps_is_table_row (lSp ⟨Γ.P, Γ.w, Γ.K, NM⟩ sp_is_table_row) :=
  fn_ok3 (ar := 0) (T := T_is_table_row) F (fs_ok (N := NL_is_table_row) (by decide +kernel)) len_is_table_row (fun cdv A outer s H E hr => b_is_table_row fx hr) p_is_table_row
theorem f_is_table_row {Γ : Gam} (fx : Fx Γ) : FnN Γ NM "is_table_row" 4 sp_is_table_row [] 3 := by
  obtain ⟨fd, F⟩ := fx.says.def_ 19 (d := d_is_table_row) rfl
  exact ⟨_, He.glo_ok fx.kin fx.glob (fx.says.fact 20 (f := .o (.glo "is_table_row")) rfl), F.kp, ⟨fd, ps_is_table_row, [], [], ok_is_table_row fx F, rfl, fun _ => .nil, .nil, F.bindsN fun _ _ _ _ _ _ us hl => match us, hl with | [_, _, _], _ => rfl⟩⟩
def NL_told_table : List Str := ["method", "table", "kept", "number", "row"]
theorem nd_told_table : NL_told_table.Nodup := by decide +kernel
theorem b_told_table {Γ : Gam} (fx : Fx Γ) {f : Addr} {cdv : Value} {A : Around} {outer : List Env} {s : Shared} {H : Hp} {E : XK} (hr : Room (16) (A.deeper (envOfC "told_table" (defScope (top 48)) s.heap.objs.size f cdv))) :
    PSs (cxOf CX0 Γ.P Γ.w Γ.K Γ.mg Γ.base NL_told_table "told_table" (defScope (top 48)) f cdv A outer s H E) (defBody (top 48)) (lS ⟨Γ.P, Γ.w, Γ.K, NM⟩ T_told_table) :=
  (css_cons (cs_set (i := 2) nd_told_table (ce_call (f_deep_1 fx) hr (ca_cons (ce_var (i := 1)) ca_nil)))
    (css_cons (cs_if (PW.pt (cw_or (ct_not (ct_truth (ce_isi (fx_isinstance fx) (fx_tuple fx) (ce_var (i := 2))))) (cw_one_or (ct_not (ct_chain cop_le cop_le ce_int (ce_callB (cc_len [] hr.units) (fx_len fx) (ca_cons (ce_var (i := 2)) ca_nil)) (ce_gint (fx_MOST_MEMORIES fx))))))) (css_one cs_never) css_nil)
    (css_cons (cs_for passes_cx0 rfl (ci_enum (fx_enumerate fx) (ce_var (i := 2))) (cg_tup rfl (cgs_cons (cg_name (i := 3) nd_told_table) (cgs_cons (cg_name (i := 4) nd_told_table) cgs_nil))) (css_one (cs_if (ct_not (ct_truth (ce_call (f_is_table_row fx) hr (ca_cons (ce_var (i := 4)) (ca_cons (ce_var (i := 0)) (ca_cons (ce_callB (cc_len [] hr.units) (fx_len fx) (ca_cons (ce_var (i := 2)) ca_nil)) ca_nil)))))) (css_one cs_never) css_nil)))
    (css_one (cs_ret (ce_var (i := 2)))))))
def ps_told_table : List Str := ["method", "table"]
theorem len_told_table : ∀ cs G R, sp_told_table cs G R → cs.length = 2 := fun cs G R h => by
  unfold sp_told_table at h
  try unfold spLenF at h
  split at h <;> first | rfl | exact h.elim
theorem ok_told_table {Γ : Gam} (fx : Fx Γ) {f : Addr} {fd : FuncData} {dvs : List V} (F : FunD Γ.K d_told_table.name d_told_table.qual (defArgs d_told_table.st) (defBody d_told_table.st) (defScope d_told_table.st) dvs [] f fd) : FnOk Γ.P Γ.w Γ.K Γ.mg Γ.base CX0 17 f fd ps_told_table (lSp ⟨Γ.P, Γ.w, Γ.K, NM⟩ sp_told_table) :=
  fn_ok3 (ar := 0) (T := T_told_table) F (fs_ok (N := NL_told_table) (by decide +kernel)) len_told_table (fun cdv A outer s H E hr => b_told_table fx hr) p_told_table
theorem f_told_table {Γ : Gam} (fx : Fx Γ) : FnN Γ NM "told_table" 17 sp_told_table [] 2 := by
  obtain ⟨fd, F⟩ := fx.says.def_ 20 (d := d_told_table) rfl
  exact ⟨_, He.glo_ok fx.kin fx.glob (fx.says.fact 21 (f := .o (.glo "told_table")) rfl), F.kp, ⟨fd, ps_told_table, [], [], ok_told_table fx F, rfl, fun _ => .nil, .nil, F.bindsN fun _ _ _ _ _ _ us hl => match us, hl with | [_, _], _ => rfl⟩⟩
def NL_Conductor___init__ : List Str := ["self", "method", "bell", "table"]
theorem nd_Conductor___init__ : NL_Conductor___init__.Nodup := by decide +kernel
theorem b_Conductor___init__ {Γ : Gam} (fx : Fx Γ) {f : Addr} {cdv : Value} {A : Around} {outer : List Env} {s : Shared} {H : Hp} {E : XK} (hr : Room (19) (A.deeper (envOfC "Conductor.__init__" (defScope (inClass (top 49) 0)) s.heap.objs.size f cdv))) :
    PSs (cxOf CX0 Γ.P Γ.w Γ.K Γ.mg Γ.base NL_Conductor___init__ "Conductor.__init__" (defScope (inClass (top 49) 0)) f cdv A outer s H E) (defBody (inClass (top 49) 0)) (lS ⟨Γ.P, Γ.w, Γ.K, NM⟩ T_Conductor___init__) :=
  (css_cons (cs_if (ct_not (ct_truth (ce_call (f_is_integer fx) hr (ca_cons (ce_var (i := 2)) (ca_cons ce_int (ca_cons (ce_attr .nil hr (ce_var (i := 1)) nmA_nd) ca_nil)))))) (css_one cs_never) css_nil)
    (css_cons (cs_fld (cn := c_Conductor) (f := a_method) nmA_nd (na_Conductor_method fx) (ce_var (i := 0)) (ce_var (i := 1)))
    (css_cons (cs_fld (cn := c_Conductor) (f := a_bell) nmA_nd (na_Conductor_bell fx) (ce_var (i := 0)) (ce_var (i := 2)))
    (css_one (cs_fld (cn := c_Conductor) (f := a_table) nmA_nd (na_Conductor_table fx) (ce_var (i := 0)) (ce_call (f_told_table fx) hr (ca_cons (ce_var (i := 1)) (ca_cons (ce_var (i := 3)) ca_nil))))))))
def ps_Conductor___init__ : List Str := ["self", "method", "bell", "table"]
theorem len_Conductor___init__ : ∀ cs G R, sp_Conductor___init__ cs G R → cs.length = 4 := fun cs G R h => by
  unfold sp_Conductor___init__ at h
  try unfold spLenF at h
  split at h <;> first | rfl | exact h.elim
theorem ok_Conductor___init__ {Γ : Gam} (fx : Fx Γ) {f : Addr} {fd : FuncData} {dvs : List V} (F : FunD Γ.K d_Conductor___init__.name d_Conductor___init__.qual (defArgs d_Conductor___init__.st) (defBody d_Conductor___init__.st) (defScope d_Conductor___init__.st) dvs [] f fd) : FnOk Γ.P Γ.w Γ.K Γ.mg Γ.base CX0 20 f fd ps_Conductor___init__ (lSp ⟨Γ.P, Γ.w, Γ.K, NM⟩ sp_Conductor___init__) :=
  fn_ok3 (ar := 0) (T := T_Conductor___init__) F (fs_ok (N := NL_Conductor___init__) (by decide +kernel)) len_Conductor___init__ (fun cdv A outer s H E hr => b_Conductor___init__ fx hr) p_Conductor___init__
theorem m_Conductor {Γ : Gam} (fx : Fx Γ) : MkN Γ NM c_Conductor 20 sp_Conductor___init__ [] 4 := by
  obtain ⟨fd, F⟩ := fx.says.def_ 63 (d := d_Conductor___init__) rfl
  exact ⟨_, He.glo_ok fx.kin fx.glob (fx.says.fact 75 (f := .o (.glo "Conductor")) rfl), He.mkr_ok (x := "Conductor") (fx.says.fact 77 (f := .o (.mkr "Conductor")) rfl), He.cls_ok (x := "Conductor") (fx.says.fact 76 (f := .o (.cls "Conductor")) rfl), ⟨fd, ps_Conductor___init__, [], [], ok_Conductor___init__ fx F, rfl, fun _ => .nil, .nil, F.bindsN fun _ _ _ _ _ _ us hl => match us, hl with | [_, _, _, _], _ => rfl⟩⟩
def NL_flat : List Str := ["thing"]
theorem nd_flat : NL_flat.Nodup := by decide +kernel
theorem b_flat {Γ : Gam} (fx : Fx Γ) {f : Addr} {cdv : Value} {A : Around} {outer : List Env} {s : Shared} {H : Hp} {E : XK} (hr : Room (0) (A.deeper (envOfC "flat" (defScope (top 22)) s.heap.objs.size f cdv))) :
    PSs (cxOf CX0 Γ.P Γ.w Γ.K Γ.mg Γ.base NL_flat "flat" (defScope (top 22)) f cdv A outer s H E) (defBody (top 22)) (lS ⟨Γ.P, Γ.w, Γ.K, NM⟩ T_flat) :=
  (css_cons (cs_if (ct_truth (ce_isi2 (fx_isinstance fx) (fx_list fx) (fx_tuple fx) (ce_var (i := 0)))) (css_one (cs_ret (ce_callTy cc_tuple (fx_tuple fx) (ca_cons (ce_var (i := 0)) ca_nil)))) css_nil)
    (css_one (cs_ret (ce_var (i := 0)))))
def ps_flat : List Str := ["thing"]
theorem len_flat : ∀ cs G R, sp_flat cs G R → cs.length = 1 := fun cs G R h => by
  unfold sp_flat at h
  try unfold spLenF at h
  split at h <;> first | rfl | exact h.elim
theorem ok_flat {Γ : Gam} (fx : Fx Γ) {f : Addr} {fd : FuncData} {dvs : List V} (F : FunD Γ.K d_flat.name d_flat.qual (defArgs d_flat.st) (defBody d_flat.st) (defScope d_flat.st) dvs [] f fd) : FnOk Γ.P Γ.w Γ.K Γ.mg Γ.base CX0 1 f fd ps_flat (lSp ⟨Γ.P, Γ.w, Γ.K, NM⟩ sp_flat) :=
  fn_ok3 (ar := 0) (T := T_flat) F (fs_ok (N := NL_flat) (by decide +kernel)) len_flat (fun cdv A outer s H E hr => b_flat fx hr) p_flat
theorem f_flat {Γ : Gam} (fx : Fx Γ) : FnN Γ NM "flat" 1 sp_flat [] 1 := by
  obtain ⟨fd, F⟩ := fx.says.def_ 1 (d := d_flat) rfl
  exact ⟨_, He.glo_ok fx.kin fx.glob (fx.says.fact 2 (f := .o (.glo "flat")) rfl), F.kp, ⟨fd, ps_flat, [], [], ok_flat fx F, rfl, fun _ => .nil, .nil, F.bindsN fun _ _ _ _ _ _ us hl => match us, hl with | [_], _ => rfl⟩⟩
def NL_is_sound_row : List Str := ["thing", "stage", "there", "bell"]
theorem nd_is_sound_row : NL_is_sound_row.Nodup := by decide +kernel
theorem b_is_sound_row {Γ : Gam} (fx : Fx Γ) {f : Addr} {cdv : Value} {A : Around} {outer : List Env} {s : Shared} {H : Hp} {E : XK} (hr : Room (3) (A.deeper (envOfC "is_sound_row" (defScope (top 32)) s.heap.objs.size f cdv))) :
    PSs (cxOf CX0 Γ.P Γ.w Γ.K Γ.mg Γ.base NL_is_sound_row "is_sound_row" (defScope (top 32)) f cdv A outer s H E) (defBody (top 32)) (lS ⟨Γ.P, Γ.w, Γ.K, NM⟩ T_is_sound_row) :=
  (css_cons (cs_if (PW.pt (cw_or (ct_not (ct_truth (ce_isi (fx_isinstance fx) (fx_tuple fx) (ce_var (i := 0))))) (cw_one_or (ct_cmp (cop_ne hr.units) (ce_callB (cc_len [] hr.units) (fx_len fx) (ca_cons (ce_var (i := 0)) ca_nil)) (ce_var (i := 1)))))) (css_one (cs_ret ce_bl)) css_nil)
    (css_cons (cs_set (i := 2) nd_is_sound_row (ce_newD (t := false)))
    (css_cons (cs_for passes_cx0 rfl (ci_val (ce_var (i := 0))) (cg_name (i := 3) nd_is_sound_row) (css_cons (cs_if (PW.pt (cw_or (ct_not (ct_truth (ce_call (f_is_integer fx) hr (ca_cons (ce_var (i := 3)) (ca_cons ce_int (ca_cons (ce_var (i := 1)) ca_nil)))))) (cw_one_or (ct_cmp (cop_in .nil hr.units) (ce_var (i := 3)) (ce_var (i := 2)))))) (css_one (cs_ret ce_bl)) css_nil)
    (css_one (cs_asg (wk := false) ce_bl (cg_sub (ce_var (i := 2)) (ce_var (i := 3)) (cset hr.units))))))
    (css_one (cs_ret ce_bl)))))
def ps_is_sound_row : List Str := ["thing", "stage"]
theorem len_is_sound_row : ∀ cs G R, sp_is_sound_row cs G R → cs.length = 2 := fun cs G R h => by
  unfold sp_is_sound_row at h
  try unfold spLenF at h
  split at h <;> first | rfl | exact h.elim
theorem ok_is_sound_row {Γ : Gam} (fx : Fx Γ) {f : Addr} {fd : FuncData} {dvs : List V} (F : FunD Γ.K d_is_sound_row.name d_is_sound_row.qual (defArgs d_is_sound_row.st) (defBody d_is_sound_row.st) (defScope d_is_sound_row.st) dvs [] f fd) : FnOk Γ.P Γ.w Γ.K Γ.mg Γ.base CX0 4 f fd ps_is_sound_row (lSp ⟨Γ.P, Γ.w, Γ.K, NM⟩ sp_is_sound_row) :=
  fn_ok3 (ar := 0) (T := T_is_sound_row) F (fs_ok (N := NL_is_sound_row) (by decide +kernel)) len_is_sound_row (fun cdv A outer s H E hr => b_is_sound_row fx hr) p_is_sound_row
theorem f_is_sound_row {Γ : Gam} (fx : Fx Γ) : FnN Γ NM "is_sound_row" 4 sp_is_sound_row [] 2 := by
  obtain ⟨fd, F⟩ := fx.says.def_ 10 (d := d_is_sound_row) rfl
  exact ⟨_, He.glo_ok fx.kin fx.glob (fx.says.fact 11 (f := .o (.glo "is_sound_row")) rfl), F.kp, ⟨fd, ps_is_sound_row, [], [], ok_is_sound_row fx F, rfl, fun _ => .nil, .nil, F.bindsN fun _ _ _ _ _ _ us hl => match us, hl with | [_, _], _ => rfl⟩⟩
def NL_is_row : List Str := ["thing", "stage"]
theorem nd_is_row : NL_is_row.Nodup := by decide +kernel
theorem b_is_row {Γ : Gam} (fx : Fx Γ) {f : Addr} {cdv : Value} {A : Around} {outer : List Env} {s : Shared} {H : Hp} {E : XK} (hr : Room (6) (A.deeper (envOfC "is_row" (defScope (top 60)) s.heap.objs.size f cdv))) :
    PSs (cxOf CX0 Γ.P Γ.w Γ.K Γ.mg Γ.base NL_is_row "is_row" (defScope (top 60)) f cdv A outer s H E) (defBody (top 60)) (lS ⟨Γ.P, Γ.w, Γ.K, NM⟩ T_is_row) :=
  (css_one (cs_ret (ce_and (ce_call (f_is_integer fx) hr (ca_cons (ce_var (i := 1)) (ca_cons ce_int (ca_cons ce_int ca_nil)))) (ce_one (ce_call (f_is_sound_row fx) hr (ca_cons (ce_call (f_flat fx) hr (ca_cons (ce_var (i := 0)) ca_nil)) (ca_cons (ce_var (i := 1)) ca_nil)))))))
def ps_is_row : List Str := ["thing", "stage"]
theorem len_is_row : ∀ cs G R, sp_is_row cs G R → cs.length = 2 := fun cs G R h => by
  unfold sp_is_row at h
  try unfold spLenF at h
  split at h <;> first | rfl | exact h.elim
theorem ok_is_row {Γ : Gam} (fx : Fx Γ) {f : Addr} {fd : FuncData} {dvs : List V} (F : FunD Γ.K d_is_row.name d_is_row.qual (defArgs d_is_row.st) (defBody d_is_row.st) (defScope d_is_row.st) dvs [] f fd) : FnOk Γ.P Γ.w Γ.K Γ.mg Γ.base CX0 7 f fd ps_is_row (lSp ⟨Γ.P, Γ.w, Γ.K, NM⟩ sp_is_row) :=
  fn_ok3 (ar := 0) (T := T_is_row) F (fs_ok (N := NL_is_row) (by decide +kernel)) len_is_row (fun cdv A outer s H E hr => b_is_row fx hr) p_is_row
theorem f_is_row {Γ : Gam} (fx : Fx Γ) : FnN Γ NM "is_row" 7 sp_is_row [] 2 := by
  obtain ⟨fd, F⟩ := fx.says.def_ 27 (d := d_is_row) rfl
  exact ⟨_, He.glo_ok fx.kin fx.glob (fx.says.fact 28 (f := .o (.glo "is_row")) rfl), F.kp, ⟨fd, ps_is_row, [], [], ok_is_row fx F, rfl, fun _ => .nil, .nil, F.bindsN fun _ _ _ _ _ _ us hl => match us, hl with | [_, _], _ => rfl⟩⟩
def NL_any_row : List Str := ["thing", "kept"]
theorem nd_any_row : NL_any_row.Nodup := by decide +kernel
theorem b_any_row {Γ : Gam} (fx : Fx Γ) {f : Addr} {cdv : Value} {A : Around} {outer : List Env} {s : Shared} {H : Hp} {E : XK} (hr : Room (9) (A.deeper (envOfC "any_row" (defScope (top 61)) s.heap.objs.size f cdv))) :
    PSs (cxOf CX0 Γ.P Γ.w Γ.K Γ.mg Γ.base NL_any_row "any_row" (defScope (top 61)) f cdv A outer s H E) (defBody (top 61)) (lS ⟨Γ.P, Γ.w, Γ.K, NM⟩ T_any_row) :=
  (css_cons (cs_set (i := 1) nd_any_row (ce_call (f_flat fx) hr (ca_cons (ce_var (i := 0)) ca_nil)))
    (css_cons (cs_if (PW.pt (cw_or (ct_not (ct_truth (ce_isi (fx_isinstance fx) (fx_tuple fx) (ce_var (i := 1))))) (cw_one_or (ct_not (ct_truth (ce_call (f_is_row fx) hr (ca_cons (ce_var (i := 1)) (ca_cons (ce_callB (cc_len [] hr.units) (fx_len fx) (ca_cons (ce_var (i := 1)) ca_nil)) ca_nil)))))))) (css_one cs_never) css_nil)
    (css_one (cs_ret (ce_var (i := 1))))))
def ps_any_row : List Str := ["thing"]
theorem len_any_row : ∀ cs G R, sp_any_row cs G R → cs.length = 1 := fun cs G R h => by
  unfold sp_any_row at h
  try unfold spLenF at h
  split at h <;> first | rfl | exact h.elim
theorem ok_any_row {Γ : Gam} (fx : Fx Γ) {f : Addr} {fd : FuncData} {dvs : List V} (F : FunD Γ.K d_any_row.name d_any_row.qual (defArgs d_any_row.st) (defBody d_any_row.st) (defScope d_any_row.st) dvs [] f fd) : FnOk Γ.P Γ.w Γ.K Γ.mg Γ.base CX0 10 f fd ps_any_row (lSp ⟨Γ.P, Γ.w, Γ.K, NM⟩ sp_any_row) :=
  fn_ok3 (ar := 0) (T := T_any_row) F (fs_ok (N := NL_any_row) (by decide +kernel)) len_any_row (fun cdv A outer s H E hr => b_any_row fx hr) p_any_row
theorem f_any_row {Γ : Gam} (fx : Fx Γ) : FnN Γ NM "any_row" 10 sp_any_row [] 1 := by
  obtain ⟨fd, F⟩ := fx.says.def_ 28 (d := d_any_row) rfl
  exact ⟨_, He.glo_ok fx.kin fx.glob (fx.says.fact 29 (f := .o (.glo "any_row")) rfl), F.kp, ⟨fd, ps_any_row, [], [], ok_any_row fx F, rfl, fun _ => .nil, .nil, F.bindsN fun _ _ _ _ _ _ us hl => match us, hl with | [_], _ => rfl⟩⟩
def NL_place_in : List Str := ["row", "bell"]
theorem nd_place_in : NL_place_in.Nodup := by decide +kernel
theorem b_place_in {Γ : Gam} (fx : Fx Γ) {f : Addr} {cdv : Value} {A : Around} {outer : List Env} {s : Shared} {H : Hp} {E : XK} (hr : Room (0) (A.deeper (envOfC "place_in" (defScope (top 30)) s.heap.objs.size f cdv))) :
    PSs (cxOf CX0 Γ.P Γ.w Γ.K Γ.mg Γ.base NL_place_in "place_in" (defScope (top 30)) f cdv A outer s H E) (defBody (top 30)) (lS ⟨Γ.P, Γ.w, Γ.K, NM⟩ T_place_in) :=
  (css_one (cs_ret (ce_op cop_add (ce_bm bm_index (ce_var (i := 0)) (ca_cons (ce_var (i := 1)) ca_nil)) ce_int)))
def ps_place_in : List Str := ["row", "bell"]
theorem len_place_in : ∀ cs G R, sp_place_in cs G R → cs.length = 2 := fun cs G R h => by
  unfold sp_place_in at h
  try unfold spLenF at h
  split at h <;> first | rfl | exact h.elim
theorem ok_place_in {Γ : Gam} (fx : Fx Γ) {f : Addr} {fd : FuncData} {dvs : List V} (F : FunD Γ.K d_place_in.name d_place_in.qual (defArgs d_place_in.st) (defBody d_place_in.st) (defScope d_place_in.st) dvs [] f fd) : FnOk Γ.P Γ.w Γ.K Γ.mg Γ.base CX0 1 f fd ps_place_in (lSp ⟨Γ.P, Γ.w, Γ.K, NM⟩ sp_place_in) :=
  fn_ok3 (ar := 0) (T := T_place_in) F (fs_ok (N := NL_place_in) (by decide +kernel)) len_place_in (fun cdv A outer s H E hr => b_place_in fx hr) p_place_in
theorem f_place_in {Γ : Gam} (fx : Fx Γ) : FnN Γ NM "place_in" 1 sp_place_in [] 2 := by
  obtain ⟨fd, F⟩ := fx.says.def_ 8 (d := d_place_in) rfl
  exact ⟨_, He.glo_ok fx.kin fx.glob (fx.says.fact 9 (f := .o (.glo "place_in")) rfl), F.kp, ⟨fd, ps_place_in, [], [], ok_place_in fx F, rfl, fun _ => .nil, .nil, F.bindsN fun _ _ _ _ _ _ us hl => match us, hl with | [_, _], _ => rfl⟩⟩
def NL_place : List Str := ["row", "bell", "kept"]
theorem nd_place : NL_place.Nodup := by decide +kernel
theorem b_place {Γ : Gam} (fx : Fx Γ) {f : Addr} {cdv : Value} {A : Around} {outer : List Env} {s : Shared} {H : Hp} {E : XK} (hr : Room (12) (A.deeper (envOfC "place" (defScope (top 64)) s.heap.objs.size f cdv))) :
    PSs (cxOf CX0 Γ.P Γ.w Γ.K Γ.mg Γ.base NL_place "place" (defScope (top 64)) f cdv A outer s H E) (defBody (top 64)) (lS ⟨Γ.P, Γ.w, Γ.K, NM⟩ T_place) :=
  (css_cons (cs_set (i := 2) nd_place (ce_call (f_any_row fx) hr (ca_cons (ce_var (i := 0)) ca_nil)))
    (css_cons (cs_if (ct_not (ct_truth (ce_call (f_is_integer fx) hr (ca_cons (ce_var (i := 1)) (ca_cons ce_int (ca_cons (ce_callB (cc_len [] hr.units) (fx_len fx) (ca_cons (ce_var (i := 2)) ca_nil)) ca_nil)))))) (css_one cs_never) css_nil)
    (css_one (cs_ret (ce_call (f_place_in fx) hr (ca_cons (ce_var (i := 2)) (ca_cons (ce_var (i := 1)) ca_nil)))))))
def ps_place : List Str := ["row", "bell"]
theorem len_place : ∀ cs G R, sp_place cs G R → cs.length = 2 := fun cs G R h => by
  unfold sp_place at h
  try unfold spLenF at h
  split at h <;> first | rfl | exact h.elim
theorem ok_place {Γ : Gam} (fx : Fx Γ) {f : Addr} {fd : FuncData} {dvs : List V} (F : FunD Γ.K d_place.name d_place.qual (defArgs d_place.st) (defBody d_place.st) (defScope d_place.st) dvs [] f fd) : FnOk Γ.P Γ.w Γ.K Γ.mg Γ.base CX0 13 f fd ps_place (lSp ⟨Γ.P, Γ.w, Γ.K, NM⟩ sp_place) :=
  fn_ok3 (ar := 0) (T := T_place) F (fs_ok (N := NL_place) (by decide +kernel)) len_place (fun cdv A outer s H E hr => b_place fx hr) p_place
theorem f_place {Γ : Gam} (fx : Fx Γ) : FnN Γ NM "place" 13 sp_place [] 2 := by
  obtain ⟨fd, F⟩ := fx.says.def_ 31 (d := d_place) rfl
  exact ⟨_, He.glo_ok fx.kin fx.glob (fx.says.fact 32 (f := .o (.glo "place")) rfl), F.kp, ⟨fd, ps_place, [], [], ok_place fx F, rfl, fun _ => .nil, .nil, F.bindsN fun _ _ _ _ _ _ us hl => match us, hl with | [_, _], _ => rfl⟩⟩
def NL__law_moved : List Str := ["_law_row_here", "_law_move", "_law_spot"]
theorem nd__law_moved : NL__law_moved.Nodup := by decide +kernel
theorem b__law_moved {Γ : Gam} (fx : Fx Γ) {f : Addr} {cdv : Value} {A : Around} {outer : List Env} {s : Shared} {H : Hp} {E : XK} (hr : Room (0) (A.deeper (envOfC "_law_moved" (defScope (top 73)) s.heap.objs.size f cdv))) :
    PSs (cxOf CX0 Γ.P Γ.w Γ.K Γ.mg Γ.base NL__law_moved "_law_moved" (defScope (top 73)) f cdv A outer s H E) (defBody (top 73)) (lS ⟨Γ.P, Γ.w, Γ.K, NM⟩ T__law_moved) :=
  (css_one (cs_ret (ce_callTy cc_tuple (fx_tuple fx) (ca_cons (ce_lc (own := [("_law_spot", 2)]) rfl nd__law_moved (ci_val (ce_var (i := 1))) (blk_ok (N := NL__law_moved) (sc := defScope (top 73)) (own := [("_law_spot", 2)]) (by decide +kernel)) (by decide) (fun _ _ _ _ _ => (cg_name (i := 2) nd__law_moved)) (fun _ _ _ _ _ => cts_nil) (fun _ _ _ _ _ => (ce_ix (cix hr.units) (ce_var (i := 0)) (ce_op cop_sub (ce_var (i := 2)) ce_int)))) ca_nil))))
def ps__law_moved : List Str := ["_law_row_here", "_law_move"]
theorem len__law_moved : ∀ cs G R, sp__law_moved cs G R → cs.length = 2 := fun cs G R h => by
  unfold sp__law_moved at h
  try unfold spLenF at h
  split at h <;> first | rfl | exact h.elim
theorem ok__law_moved {Γ : Gam} (fx : Fx Γ) {f : Addr} {fd : FuncData} {dvs : List V} (F : FunD Γ.K d__law_moved.name d__law_moved.qual (defArgs d__law_moved.st) (defBody d__law_moved.st) (defScope d__law_moved.st) dvs [] f fd) : FnOk Γ.P Γ.w Γ.K Γ.mg Γ.base CX0 1 f fd ps__law_moved (lSp ⟨Γ.P, Γ.w, Γ.K, NM⟩ sp__law_moved) :=
  fn_ok3 (ar := 0) (T := T__law_moved) F (fs_ok (N := NL__law_moved) (by decide +kernel)) len__law_moved (fun cdv A outer s H E hr => b__law_moved fx hr) p__law_moved
theorem f__law_moved {Γ : Gam} (fx : Fx Γ) : FnN Γ NM "_law_moved" 1 sp__law_moved [] 2 := by
  obtain ⟨fd, F⟩ := fx.says.def_ 37 (d := d__law_moved) rfl
  exact ⟨_, He.glo_ok fx.kin fx.glob (fx.says.fact 38 (f := .o (.glo "_law_moved")) rfl), F.kp, ⟨fd, ps__law_moved, [], [], ok__law_moved fx F, rfl, fun _ => .nil, .nil, F.bindsN fun _ _ _ _ _ _ us hl => match us, hl with | [_, _], _ => rfl⟩⟩
def NL__law_walk : List Str := ["_law_moves_here", "_law_table_here", "_law_bell", "_law_start", "_law_row_here", "_law_memory", "_law_called", "_law_there", "_law_turn", "_law_at", "_law_letter_here"]
theorem nd__law_walk : NL__law_walk.Nodup := by decide +kernel
theorem b__law_walk {Γ : Gam} (fx : Fx Γ) {f : Addr} {cdv : Value} {A : Around} {outer : List Env} {s : Shared} {H : Hp} {E : XK} (hr : Room (3) (A.deeper (envOfC "_law_walk" (defScope (top 88)) s.heap.objs.size f cdv))) :
    PSs (cxOf CX0 Γ.P Γ.w Γ.K Γ.mg Γ.base NL__law_walk "_law_walk" (defScope (top 88)) f cdv A outer s H E) (defBody (top 88)) (lS ⟨Γ.P, Γ.w, Γ.K, NM⟩ T__law_walk) :=
  (css_cons (cs_set (i := 4) nd__law_walk (ce_var (i := 3)))
    (css_cons (cs_set (i := 5) nd__law_walk ce_int)
    (css_cons (cs_set (i := 6) nd__law_walk ce_str)
    (css_cons (cs_set (i := 7) nd__law_walk (ce_newD (t := true)))
    (css_cons (cs_for passes_cx0 rfl (ci_rg1 (fx_range fx) ce_int) (cg_name (i := 8) nd__law_walk) (css_cons (cs_if (ct_cmp (cop_in .nil hr.units) (ce_tup (ca_cons (ce_var (i := 5)) (ca_cons (ce_var (i := 4)) ca_nil))) (ce_var (i := 7))) (css_cons (cs_set (i := 9) nd__law_walk (ce_ix (cix hr.units) (ce_var (i := 7)) (ce_tup (ca_cons (ce_var (i := 5)) (ca_cons (ce_var (i := 4)) ca_nil)))))
    (css_one (cs_ret (ce_tup (ca_cons ce_str (ca_cons (ce_slice csl (ce_var (i := 6)) co_none (co_some (ce_var (i := 9)))) (ca_cons (ce_slice csl (ce_var (i := 6)) (co_some (ce_var (i := 9))) co_none) ca_nil))))))) css_nil)
    (css_cons (cs_asg (wk := false) (ce_callB (cc_len [] hr.units) (fx_len fx) (ca_cons (ce_var (i := 6)) ca_nil)) (cg_sub (ce_var (i := 7)) (ce_tup (ca_cons (ce_var (i := 5)) (ca_cons (ce_var (i := 4)) ca_nil))) (cset hr.units)))
    (css_cons (cs_asg (wk := false) (ce_ix (cix hr.units) (ce_ix (cix hr.units) (ce_var (i := 1)) (ce_var (i := 5))) (ce_bm bm_index (ce_var (i := 4)) (ca_cons (ce_var (i := 2)) ca_nil))) (cg_tup rfl (cgs_cons (cg_name (i := 10) nd__law_walk) (cgs_cons (cg_name (i := 5) nd__law_walk) cgs_nil))))
    (css_cons (cs_set (i := 6) nd__law_walk (ce_op cop_add (ce_var (i := 6)) (ce_var (i := 10))))
    (css_cons (cs_set (i := 4) nd__law_walk (ce_call (f__law_moved fx) hr (ca_cons (ce_var (i := 4)) (ca_cons (ce_ix (cix hr.units) (ce_var (i := 0)) (ce_var (i := 10))) ca_nil))))
    (css_one (cs_if (ct_cmp (cop_eq hr.units) (ce_var (i := 4)) (ce_var (i := 3))) (css_one (cs_ret (ce_tup (ca_cons ce_str (ca_cons (ce_var (i := 6)) ca_nil))))) css_nil))))))))
    (css_one (cs_ret (ce_tup ca_nil))))))))
def ps__law_walk : List Str := ["_law_moves_here", "_law_table_here", "_law_bell", "_law_start"]
theorem len__law_walk : ∀ cs G R, sp__law_walk cs G R → cs.length = 4 := fun cs G R h => by
  unfold sp__law_walk at h
  try unfold spLenF at h
  split at h <;> first | rfl | exact h.elim
theorem ok__law_walk {Γ : Gam} (fx : Fx Γ) {f : Addr} {fd : FuncData} {dvs : List V} (F : FunD Γ.K d__law_walk.name d__law_walk.qual (defArgs d__law_walk.st) (defBody d__law_walk.st) (defScope d__law_walk.st) dvs [] f fd) : FnOk Γ.P Γ.w Γ.K Γ.mg Γ.base CX0 4 f fd ps__law_walk (lSp ⟨Γ.P, Γ.w, Γ.K, NM⟩ sp__law_walk) :=
  fn_ok3 (ar := 0) (T := T__law_walk) F (fs_ok (N := NL__law_walk) (by decide +kernel)) len__law_walk (fun cdv A outer s H E hr => b__law_walk fx hr) p__law_walk
theorem f__law_walk {Γ : Gam} (fx : Fx Γ) : FnN Γ NM "_law_walk" 4 sp__law_walk [] 4 := by
  obtain ⟨fd, F⟩ := fx.says.def_ 52 (d := d__law_walk) rfl
  exact ⟨_, He.glo_ok fx.kin fx.glob (fx.says.fact 53 (f := .o (.glo "_law_walk")) rfl), F.kp, ⟨fd, ps__law_walk, [], [], ok__law_walk fx F, rfl, fun _ => .nil, .nil, F.bindsN fun _ _ _ _ _ _ us hl => match us, hl with | [_, _, _, _], _ => rfl⟩⟩
def NL__law_rounds : List Str := ["_law_stage"]
theorem nd__law_rounds : NL__law_rounds.Nodup := by decide +kernel
theorem b__law_rounds {Γ : Gam} (fx : Fx Γ) {f : Addr} {cdv : Value} {A : Around} {outer : List Env} {s : Shared} {H : Hp} {E : XK} (hr : Room (0) (A.deeper (envOfC "_law_rounds" (defScope (top 72)) s.heap.objs.size f cdv))) :
    PSs (cxOf CX0 Γ.P Γ.w Γ.K Γ.mg Γ.base NL__law_rounds "_law_rounds" (defScope (top 72)) f cdv A outer s H E) (defBody (top 72)) (lS ⟨Γ.P, Γ.w, Γ.K, NM⟩ T__law_rounds) :=
  (css_one (cs_ret (ce_tupRg rfl (fx_tuple fx) (cr_2 (fx_range fx) ce_int (ce_op cop_add (ce_var (i := 0)) ce_int)))))
def ps__law_rounds : List Str := ["_law_stage"]
theorem len__law_rounds : ∀ cs G R, sp__law_rounds cs G R → cs.length = 1 := fun cs G R h => by
  unfold sp__law_rounds at h
  try unfold spLenF at h
  split at h <;> first | rfl | exact h.elim
theorem ok__law_rounds {Γ : Gam} (fx : Fx Γ) {f : Addr} {fd : FuncData} {dvs : List V} (F : FunD Γ.K d__law_rounds.name d__law_rounds.qual (defArgs d__law_rounds.st) (defBody d__law_rounds.st) (defScope d__law_rounds.st) dvs [] f fd) : FnOk Γ.P Γ.w Γ.K Γ.mg Γ.base CX0 1 f fd ps__law_rounds (lSp ⟨Γ.P, Γ.w, Γ.K, NM⟩ sp__law_rounds) :=
  fn_ok3 (ar := 0) (T := T__law_rounds) F (fs_ok (N := NL__law_rounds) (by decide +kernel)) len__law_rounds (fun cdv A outer s H E hr => b__law_rounds fx hr) p__law_rounds
theorem f__law_rounds {Γ : Gam} (fx : Fx Γ) : FnN Γ NM "_law_rounds" 1 sp__law_rounds [] 1 := by
  obtain ⟨fd, F⟩ := fx.says.def_ 36 (d := d__law_rounds) rfl
  exact ⟨_, He.glo_ok fx.kin fx.glob (fx.says.fact 37 (f := .o (.glo "_law_rounds")) rfl), F.kp, ⟨fd, ps__law_rounds, [], [], ok__law_rounds fx F, rfl, fun _ => .nil, .nil, F.bindsN fun _ _ _ _ _ _ us hl => match us, hl with | [_], _ => rfl⟩⟩
def NL__law_lead_of : List Str := ["_law_world_here", "_law_letter_here", "_law_lead", "_law_call"]
theorem nd__law_lead_of : NL__law_lead_of.Nodup := by decide +kernel
theorem b__law_lead_of {Γ : Gam} (fx : Fx Γ) {f : Addr} {cdv : Value} {A : Around} {outer : List Env} {s : Shared} {H : Hp} {E : XK} (hr : Room (0) (A.deeper (envOfC "_law_lead_of" (defScope (top 83)) s.heap.objs.size f cdv))) :
    PSs (cxOf CX0 Γ.P Γ.w Γ.K Γ.mg Γ.base NL__law_lead_of "_law_lead_of" (defScope (top 83)) f cdv A outer s H E) (defBody (top 83)) (lS ⟨Γ.P, Γ.w, Γ.K, NM⟩ T__law_lead_of) :=
  (css_cons (cs_set (i := 2) nd__law_lead_of (ce_callTy (cc_list rfl) (fx_list fx) (ca_cons (ce_ix (cix hr.units) (ce_var (i := 0)) ce_int) ca_nil)))
    (css_cons (cs_for passes_cx0 rfl (ci_val (ce_ix (cix hr.units) (ce_var (i := 0)) ce_int)) (cg_name (i := 3) nd__law_lead_of) (css_one (cs_if (ct_cmp (cop_eq hr.units) (ce_ix (cix hr.units) (ce_var (i := 3)) ce_int) (ce_var (i := 1))) (css_one (cs_set (i := 2) nd__law_lead_of (ce_op cop_add (ce_op cop_add (ce_slice csl (ce_var (i := 2)) co_none (co_some (ce_ix (cix hr.units) (ce_var (i := 3)) ce_int))) (ce_callTy (cc_list rfl) (fx_list fx) (ca_cons (ce_ix (cix hr.units) (ce_var (i := 3)) ce_int) ca_nil))) (ce_slice csl (ce_var (i := 2)) (co_some (ce_op cop_add (ce_ix (cix hr.units) (ce_var (i := 3)) ce_int) (ce_callB (cc_len [] hr.units) (fx_len fx) (ca_cons (ce_ix (cix hr.units) (ce_var (i := 3)) ce_int) ca_nil)))) co_none)))) css_nil)))
    (css_one (cs_ret (ce_callTy cc_tuple (fx_tuple fx) (ca_cons (ce_var (i := 2)) ca_nil))))))
def ps__law_lead_of : List Str := ["_law_world_here", "_law_letter_here"]
theorem len__law_lead_of : ∀ cs G R, sp__law_lead_of cs G R → cs.length = 2 := fun cs G R h => by
  unfold sp__law_lead_of at h
  try unfold spLenF at h
  split at h <;> first | rfl | exact h.elim
theorem ok__law_lead_of {Γ : Gam} (fx : Fx Γ) {f : Addr} {fd : FuncData} {dvs : List V} (F : FunD Γ.K d__law_lead_of.name d__law_lead_of.qual (defArgs d__law_lead_of.st) (defBody d__law_lead_of.st) (defScope d__law_lead_of.st) dvs [] f fd) : FnOk Γ.P Γ.w Γ.K Γ.mg Γ.base CX0 1 f fd ps__law_lead_of (lSp ⟨Γ.P, Γ.w, Γ.K, NM⟩ sp__law_lead_of) :=
  fn_ok3 (ar := 0) (T := T__law_lead_of) F (fs_ok (N := NL__law_lead_of) (by decide +kernel)) len__law_lead_of (fun cdv A outer s H E hr => b__law_lead_of fx hr) p__law_lead_of
theorem f__law_lead_of {Γ : Gam} (fx : Fx Γ) : FnN Γ NM "_law_lead_of" 1 sp__law_lead_of [] 2 := by
  obtain ⟨fd, F⟩ := fx.says.def_ 47 (d := d__law_lead_of) rfl
  exact ⟨_, He.glo_ok fx.kin fx.glob (fx.says.fact 48 (f := .o (.glo "_law_lead_of")) rfl), F.kp, ⟨fd, ps__law_lead_of, [], [], ok__law_lead_of fx F, rfl, fun _ => .nil, .nil, F.bindsN fun _ _ _ _ _ _ us hl => match us, hl with | [_, _], _ => rfl⟩⟩
def NL__law_change_move : List Str := ["_law_change_here", "_law_stage", "_law_out", "_law_spot", "_law_turn"]
theorem nd__law_change_move : NL__law_change_move.Nodup := by decide +kernel
theorem b__law_change_move {Γ : Gam} (fx : Fx Γ) {f : Addr} {cdv : Value} {A : Around} {outer : List Env} {s : Shared} {H : Hp} {E : XK} (hr : Room (0) (A.deeper (envOfC "_law_change_move" (defScope (top 74)) s.heap.objs.size f cdv))) :
    PSs (cxOf CX0 Γ.P Γ.w Γ.K Γ.mg Γ.base NL__law_change_move "_law_change_move" (defScope (top 74)) f cdv A outer s H E) (defBody (top 74)) (lS ⟨Γ.P, Γ.w, Γ.K, NM⟩ T__law_change_move) :=
  (css_cons (cs_setLc (i := 2) (own := [("_law_spot", 3)]) rfl nd__law_change_move (ci_rg2 (fx_range fx) ce_int (ce_op cop_add (ce_var (i := 1)) ce_int)) (blk_ok (N := NL__law_change_move) (sc := defScope (top 74)) (own := [("_law_spot", 3)]) (by decide +kernel)) (by decide) (fun _ _ _ _ _ => (cg_name (i := 3) nd__law_change_move)) (fun _ _ _ _ _ => cts_nil) (fun _ _ _ _ _ => (ce_var (i := 3))))
    (css_cons (cs_set (i := 3) nd__law_change_move ce_int)
    (css_cons (cs_for passes_cx0 rfl (ci_rg1 (fx_range fx) (ce_var (i := 1))) (cg_name (i := 4) nd__law_change_move) (css_cons (cs_if (PW.pt (cw_and (ct_cmp cop_lt (ce_var (i := 3)) (ce_var (i := 1))) (cw_one_and (ct_cmp (cop_notIn .nil hr.units) (ce_var (i := 3)) (ce_var (i := 0)))))) (css_cons (cs_asg (wk := false) (ce_op cop_add (ce_var (i := 3)) ce_int) (cg_sub (ce_var (i := 2)) (ce_op cop_sub (ce_var (i := 3)) ce_int) (cset hr.units)))
    (css_cons (cs_asg (wk := false) (ce_var (i := 3)) (cg_sub (ce_var (i := 2)) (ce_var (i := 3)) (cset hr.units)))
    (css_one (cs_set (i := 3) nd__law_change_move (ce_op cop_add (ce_var (i := 3)) ce_int))))) css_nil)
    (css_one (cs_set (i := 3) nd__law_change_move (ce_op cop_add (ce_var (i := 3)) ce_int)))))
    (css_one (cs_ret (ce_callTy cc_tuple (fx_tuple fx) (ca_cons (ce_var (i := 2)) ca_nil)))))))
def ps__law_change_move : List Str := ["_law_change_here", "_law_stage"]
theorem len__law_change_move : ∀ cs G R, sp__law_change_move cs G R → cs.length = 2 := fun cs G R h => by
  unfold sp__law_change_move at h
  try unfold spLenF at h
  split at h <;> first | rfl | exact h.elim
theorem ok__law_change_move {Γ : Gam} (fx : Fx Γ) {f : Addr} {fd : FuncData} {dvs : List V} (F : FunD Γ.K d__law_change_move.name d__law_change_move.qual (defArgs d__law_change_move.st) (defBody d__law_change_move.st) (defScope d__law_change_move.st) dvs [] f fd) : FnOk Γ.P Γ.w Γ.K Γ.mg Γ.base CX0 1 f fd ps__law_change_move (lSp ⟨Γ.P, Γ.w, Γ.K, NM⟩ sp__law_change_move) :=
  fn_ok3 (ar := 0) (T := T__law_change_move) F (fs_ok (N := NL__law_change_move) (by decide +kernel)) len__law_change_move (fun cdv A outer s H E hr => b__law_change_move fx hr) p__law_change_move
theorem f__law_change_move {Γ : Gam} (fx : Fx Γ) : FnN Γ NM "_law_change_move" 1 sp__law_change_move [] 2 := by
  obtain ⟨fd, F⟩ := fx.says.def_ 38 (d := d__law_change_move) rfl
  exact ⟨_, He.glo_ok fx.kin fx.glob (fx.says.fact 39 (f := .o (.glo "_law_change_move")) rfl), F.kp, ⟨fd, ps__law_change_move, [], [], ok__law_change_move fx F, rfl, fun _ => .nil, .nil, F.bindsN fun _ _ _ _ _ _ us hl => match us, hl with | [_, _], _ => rfl⟩⟩
def NL__law_body_of : List Str := ["_law_world_here", "_law_letter_here", "_law_row_here", "_law_rows", "_law_change_here"]
theorem nd__law_body_of : NL__law_body_of.Nodup := by decide +kernel
theorem b__law_body_of {Γ : Gam} (fx : Fx Γ) {f : Addr} {cdv : Value} {A : Around} {outer : List Env} {s : Shared} {H : Hp} {E : XK} (hr : Room (3) (A.deeper (envOfC "_law_body_of" (defScope (top 84)) s.heap.objs.size f cdv))) :
    PSs (cxOf CX0 Γ.P Γ.w Γ.K Γ.mg Γ.base NL__law_body_of "_law_body_of" (defScope (top 84)) f cdv A outer s H E) (defBody (top 84)) (lS ⟨Γ.P, Γ.w, Γ.K, NM⟩ T__law_body_of) :=
  (css_cons (cs_set (i := 2) nd__law_body_of (ce_call (f__law_rounds fx) hr (ca_cons (ce_ix (cix hr.units) (ce_var (i := 0)) ce_int) ca_nil)))
    (css_cons (cs_set (i := 3) nd__law_body_of (ce_lst (ca_cons (ce_var (i := 2)) ca_nil)))
    (css_cons (cs_for passes_cx0 rfl (ci_val (ce_call (f__law_lead_of fx) hr (ca_cons (ce_var (i := 0)) (ca_cons (ce_var (i := 1)) ca_nil)))) (cg_name (i := 4) nd__law_body_of) (css_cons (cs_set (i := 2) nd__law_body_of (ce_call (f__law_moved fx) hr (ca_cons (ce_var (i := 2)) (ca_cons (ce_call (f__law_change_move fx) hr (ca_cons (ce_var (i := 4)) (ca_cons (ce_ix (cix hr.units) (ce_var (i := 0)) ce_int) ca_nil))) ca_nil))))
    (css_one (cs_expr (ce_bm bm_append (ce_var (i := 3)) (ca_cons (ce_var (i := 2)) ca_nil))))))
    (css_one (cs_ret (ce_var (i := 3)))))))
def ps__law_body_of : List Str := ["_law_world_here", "_law_letter_here"]
theorem len__law_body_of : ∀ cs G R, sp__law_body_of cs G R → cs.length = 2 := fun cs G R h => by
  unfold sp__law_body_of at h
  try unfold spLenF at h
  split at h <;> first | rfl | exact h.elim
theorem ok__law_body_of {Γ : Gam} (fx : Fx Γ) {f : Addr} {fd : FuncData} {dvs : List V} (F : FunD Γ.K d__law_body_of.name d__law_body_of.qual (defArgs d__law_body_of.st) (defBody d__law_body_of.st) (defScope d__law_body_of.st) dvs [] f fd) : FnOk Γ.P Γ.w Γ.K Γ.mg Γ.base CX0 4 f fd ps__law_body_of (lSp ⟨Γ.P, Γ.w, Γ.K, NM⟩ sp__law_body_of) :=
  fn_ok3 (ar := 0) (T := T__law_body_of) F (fs_ok (N := NL__law_body_of) (by decide +kernel)) len__law_body_of (fun cdv A outer s H E hr => b__law_body_of fx hr) p__law_body_of
theorem f__law_body_of {Γ : Gam} (fx : Fx Γ) : FnN Γ NM "_law_body_of" 4 sp__law_body_of [] 2 := by
  obtain ⟨fd, F⟩ := fx.says.def_ 48 (d := d__law_body_of) rfl
  exact ⟨_, He.glo_ok fx.kin fx.glob (fx.says.fact 49 (f := .o (.glo "_law_body_of")) rfl), F.kp, ⟨fd, ps__law_body_of, [], [], ok__law_body_of fx F, rfl, fun _ => .nil, .nil, F.bindsN fun _ _ _ _ _ _ us hl => match us, hl with | [_, _], _ => rfl⟩⟩
def NL__law_moves : List Str := ["_law_world_here", "_law_moves_here", "_law_letter_here"]
theorem nd__law_moves : NL__law_moves.Nodup := by decide +kernel
theorem b__law_moves {Γ : Gam} (fx : Fx Γ) {f : Addr} {cdv : Value} {A : Around} {outer : List Env} {s : Shared} {H : Hp} {E : XK} (hr : Room (6) (A.deeper (envOfC "_law_moves" (defScope (top 85)) s.heap.objs.size f cdv))) :
    PSs (cxOf CX0 Γ.P Γ.w Γ.K Γ.mg Γ.base NL__law_moves "_law_moves" (defScope (top 85)) f cdv A outer s H E) (defBody (top 85)) (lS ⟨Γ.P, Γ.w, Γ.K, NM⟩ T__law_moves) :=
  (css_cons (cs_set (i := 1) nd__law_moves (ce_newD (t := false)))
    (css_cons (cs_for passes_cx0 rfl (ci_val (ce_call (f__law_letters fx) hr (ca_cons (ce_var (i := 0)) ca_nil))) (cg_name (i := 2) nd__law_moves) (css_one (cs_asg (wk := false) (ce_ix (cix hr.units) (ce_call (f__law_body_of fx) hr (ca_cons (ce_var (i := 0)) (ca_cons (ce_var (i := 2)) ca_nil))) (ce_neg ce_int)) (cg_sub (ce_var (i := 1)) (ce_var (i := 2)) (cset hr.units)))))
    (css_one (cs_ret (ce_var (i := 1))))))
def ps__law_moves : List Str := ["_law_world_here"]
theorem len__law_moves : ∀ cs G R, sp__law_moves cs G R → cs.length = 1 := fun cs G R h => by
  unfold sp__law_moves at h
  try unfold spLenF at h
  split at h <;> first | rfl | exact h.elim
theorem ok__law_moves {Γ : Gam} (fx : Fx Γ) {f : Addr} {fd : FuncData} {dvs : List V} (F : FunD Γ.K d__law_moves.name d__law_moves.qual (defArgs d__law_moves.st) (defBody d__law_moves.st) (defScope d__law_moves.st) dvs [] f fd) : FnOk Γ.P Γ.w Γ.K Γ.mg Γ.base CX0 7 f fd ps__law_moves (lSp ⟨Γ.P, Γ.w, Γ.K, NM⟩ sp__law_moves) :=
  fn_ok3 (ar := 0) (T := T__law_moves) F (fs_ok (N := NL__law_moves) (by decide +kernel)) len__law_moves (fun cdv A outer s H E hr => b__law_moves fx hr) p__law_moves
theorem f__law_moves {Γ : Gam} (fx : Fx Γ) : FnN Γ NM "_law_moves" 7 sp__law_moves [] 1 := by
  obtain ⟨fd, F⟩ := fx.says.def_ 49 (d := d__law_moves) rfl
  exact ⟨_, He.glo_ok fx.kin fx.glob (fx.says.fact 50 (f := .o (.glo "_law_moves")) rfl), F.kp, ⟨fd, ps__law_moves, [], [], ok__law_moves fx F, rfl, fun _ => .nil, .nil, F.bindsN fun _ _ _ _ _ _ us hl => match us, hl with | [_], _ => rfl⟩⟩
def NL_told_row : List Str := ["thing", "stage", "kept"]
theorem nd_told_row : NL_told_row.Nodup := by decide +kernel
theorem b_told_row {Γ : Gam} (fx : Fx Γ) {f : Addr} {cdv : Value} {A : Around} {outer : List Env} {s : Shared} {H : Hp} {E : XK} (hr : Room (6) (A.deeper (envOfC "told_row" (defScope (top 35)) s.heap.objs.size f cdv))) :
    PSs (cxOf CX0 Γ.P Γ.w Γ.K Γ.mg Γ.base NL_told_row "told_row" (defScope (top 35)) f cdv A outer s H E) (defBody (top 35)) (lS ⟨Γ.P, Γ.w, Γ.K, NM⟩ T_told_row) :=
  (css_cons (cs_set (i := 2) nd_told_row (ce_call (f_flat fx) hr (ca_cons (ce_var (i := 0)) ca_nil)))
    (css_cons (cs_if (ct_not (ct_truth (ce_call (f_is_sound_row fx) hr (ca_cons (ce_var (i := 2)) (ca_cons (ce_var (i := 1)) ca_nil))))) (css_one cs_never) css_nil)
    (css_one (cs_ret (ce_var (i := 2))))))
def ps_told_row : List Str := ["thing", "stage"]
theorem len_told_row : ∀ cs G R, sp_told_row cs G R → cs.length = 2 := fun cs G R h => by
  unfold sp_told_row at h
  try unfold spLenF at h
  split at h <;> first | rfl | exact h.elim
theorem ok_told_row {Γ : Gam} (fx : Fx Γ) {f : Addr} {fd : FuncData} {dvs : List V} (F : FunD Γ.K d_told_row.name d_told_row.qual (defArgs d_told_row.st) (defBody d_told_row.st) (defScope d_told_row.st) dvs [] f fd) : FnOk Γ.P Γ.w Γ.K Γ.mg Γ.base CX0 7 f fd ps_told_row (lSp ⟨Γ.P, Γ.w, Γ.K, NM⟩ sp_told_row) :=
  fn_ok3 (ar := 0) (T := T_told_row) F (fs_ok (N := NL_told_row) (by decide +kernel)) len_told_row (fun cdv A outer s H E hr => b_told_row fx hr) p_told_row
theorem f_told_row {Γ : Gam} (fx : Fx Γ) : FnN Γ NM "told_row" 7 sp_told_row [] 2 := by
  obtain ⟨fd, F⟩ := fx.says.def_ 12 (d := d_told_row) rfl
  exact ⟨_, He.glo_ok fx.kin fx.glob (fx.says.fact 13 (f := .o (.glo "told_row")) rfl), F.kp, ⟨fd, ps_told_row, [], [], ok_told_row fx F, rfl, fun _ => .nil, .nil, F.bindsN fun _ _ _ _ _ _ us hl => match us, hl with | [_, _], _ => rfl⟩⟩
def NL_Conductor_goes_on : List Str := ["self", "memory", "row", "letter", "after"]
theorem nd_Conductor_goes_on : NL_Conductor_goes_on.Nodup := by decide +kernel
theorem b_Conductor_goes_on {Γ : Gam} (fx : Fx Γ) {f : Addr} {cdv : Value} {A : Around} {outer : List Env} {s : Shared} {H : Hp} {E : XK} (hr : Room (3) (A.deeper (envOfC "Conductor.goes_on" (defScope (inClass (top 49) 1)) s.heap.objs.size f cdv))) :
    PSs (cxOf CX0 Γ.P Γ.w Γ.K Γ.mg Γ.base NL_Conductor_goes_on "Conductor.goes_on" (defScope (inClass (top 49) 1)) f cdv A outer s H E) (defBody (inClass (top 49) 1)) (lS ⟨Γ.P, Γ.w, Γ.K, NM⟩ T_Conductor_goes_on) :=
  (css_cons (cs_asg (wk := false) (ce_ix (cix hr.units) (ce_ix (cix hr.units) (ce_attr .nil hr (ce_var (i := 0)) nmA_nd) (ce_var (i := 1))) (ce_op cop_sub (ce_call (f_place_in fx) hr (ca_cons (ce_var (i := 2)) (ca_cons (ce_attr .nil hr (ce_var (i := 0)) nmA_nd) ca_nil))) ce_int)) (cg_tup rfl (cgs_cons (cg_name (i := 3) nd_Conductor_goes_on) (cgs_cons (cg_name (i := 4) nd_Conductor_goes_on) cgs_nil))))
    (css_one (cs_ret (ce_tup (ca_cons (ce_var (i := 3)) (ca_cons (ce_var (i := 4)) (ca_cons (ce_call (f_times fx) hr (ca_cons (ce_var (i := 2)) (ca_cons (ce_ix (cix hr.units) (ce_attr .nil hr (ce_attr .nil hr (ce_var (i := 0)) nmA_nd) nmA_nd) (ce_var (i := 3))) ca_nil))) ca_nil)))))))
def ps_Conductor_goes_on : List Str := ["self", "memory", "row"]
theorem len_Conductor_goes_on : ∀ cs G R, sp_Conductor_goes_on cs G R → cs.length = 3 := fun cs G R h => by
  unfold sp_Conductor_goes_on at h
  try unfold spLenF at h
  split at h <;> first | rfl | exact h.elim
theorem ok_Conductor_goes_on {Γ : Gam} (fx : Fx Γ) {f : Addr} {fd : FuncData} {dvs : List V} (F : FunD Γ.K d_Conductor_goes_on.name d_Conductor_goes_on.qual (defArgs d_Conductor_goes_on.st) (defBody d_Conductor_goes_on.st) (defScope d_Conductor_goes_on.st) dvs [] f fd) : FnOk Γ.P Γ.w Γ.K Γ.mg Γ.base CX0 4 f fd ps_Conductor_goes_on (lSp ⟨Γ.P, Γ.w, Γ.K, NM⟩ sp_Conductor_goes_on) :=
  fn_ok3 (ar := 0) (T := T_Conductor_goes_on) F (fs_ok (N := NL_Conductor_goes_on) (by decide +kernel)) len_Conductor_goes_on (fun cdv A outer s H E hr => b_Conductor_goes_on fx hr) p_Conductor_goes_on
theorem f_Conductor_goes_on {Γ : Gam} (fx : Fx Γ) : MeN Γ NM c_Conductor "goes_on" 4 sp_Conductor_goes_on [] 3 := by
  obtain ⟨fd, F⟩ := fx.says.def_ 64 (d := d_Conductor_goes_on) rfl
  exact ⟨_, He.meth_ok (x := "Conductor") (m := "goes_on") (fx.says.fact 82 (f := .o (.meth "Conductor" "goes_on")) rfl), ⟨fd, ps_Conductor_goes_on, [], [], ok_Conductor_goes_on fx F, rfl, fun _ => .nil, .nil, F.bindsN fun _ _ _ _ _ _ us hl => match us, hl with | [_, _, _], _ => rfl⟩⟩
def NL_Conductor_outcome : List Str := ["self", "start", "first", "there", "called", "memory", "row", "letter", "at"]
theorem nd_Conductor_outcome : NL_Conductor_outcome.Nodup := by decide +kernel
theorem b_Conductor_outcome {Γ : Gam} (fx : Fx Γ) {f : Addr} {cdv : Value} {A : Around} {outer : List Env} {s : Shared} {H : Hp} {E : XK} (hr : Room (9) (A.deeper (envOfC "Conductor.outcome" (defScope (inClass (top 49) 2)) s.heap.objs.size f cdv))) :
    PSs (cxOf CX0 Γ.P Γ.w Γ.K Γ.mg Γ.base NL_Conductor_outcome "Conductor.outcome" (defScope (inClass (top 49) 2)) f cdv A outer s H E) (defBody (inClass (top 49) 2)) (lS ⟨Γ.P, Γ.w, Γ.K, NM⟩ T_Conductor_outcome) :=
  (css_cons (cs_set (i := 2) nd_Conductor_outcome (ce_if (ct_cmp cop_is (ce_var (i := 1)) ce_non) (ce_attr .nil hr (ce_attr .nil hr (ce_var (i := 0)) nmA_nd) nmA_nd) (ce_call (f_told_row fx) hr (ca_cons (ce_var (i := 1)) (ca_cons (ce_attr .nil hr (ce_attr .nil hr (ce_var (i := 0)) nmA_nd) nmA_nd) ca_nil)))))
    (css_cons (cs_set (i := 3) nd_Conductor_outcome (ce_dic1 (t := true) hr.units (ce_tup (ca_cons ce_int (ca_cons (ce_var (i := 2)) ca_nil))) ce_int))
    (css_cons (cs_set (i := 4) nd_Conductor_outcome (ce_lst ca_nil))
    (css_cons (cs_set (i := 5) nd_Conductor_outcome ce_int)
    (css_cons (cs_set (i := 6) nd_Conductor_outcome (ce_var (i := 2)))
    (css_one (cs_while passes_cx0 (ct_truth ce_bl) (css_cons (cs_asg (wk := false) (ce_meth (.cons (f_Conductor_goes_on fx) .nil) hr (ce_var (i := 0)) (ca_cons (ce_var (i := 5)) (ca_cons (ce_var (i := 6)) ca_nil))) (cg_tup rfl (cgs_cons (cg_name (i := 7) nd_Conductor_outcome) (cgs_cons (cg_name (i := 5) nd_Conductor_outcome) (cgs_cons (cg_name (i := 6) nd_Conductor_outcome) cgs_nil)))))
    (css_cons (cs_expr (ce_bm bm_append (ce_var (i := 4)) (ca_cons (ce_var (i := 7)) ca_nil)))
    (css_cons (cs_if (ct_cmp (cop_eq hr.units) (ce_var (i := 6)) (ce_var (i := 2))) (css_one (cs_ret (ce_tup (ca_cons ce_str (ca_cons (ce_bm bm_join ce_str (ca_cons (ce_var (i := 4)) ca_nil)) ca_nil))))) css_nil)
    (css_cons (cs_if (ct_cmp (cop_in .nil hr.units) (ce_tup (ca_cons (ce_var (i := 5)) (ca_cons (ce_var (i := 6)) ca_nil))) (ce_var (i := 3))) (css_cons (cs_set (i := 8) nd_Conductor_outcome (ce_ix (cix hr.units) (ce_var (i := 3)) (ce_tup (ca_cons (ce_var (i := 5)) (ca_cons (ce_var (i := 6)) ca_nil)))))
    (css_one (cs_ret (ce_tup (ca_cons ce_str (ca_cons (ce_bm bm_join ce_str (ca_cons (ce_slice csl (ce_var (i := 4)) co_none (co_some (ce_var (i := 8)))) ca_nil)) (ca_cons (ce_bm bm_join ce_str (ca_cons (ce_slice csl (ce_var (i := 4)) (co_some (ce_var (i := 8))) co_none) ca_nil)) ca_nil))))))) css_nil)
    (css_one (cs_asg (wk := false) (ce_callB (cc_len [] hr.units) (fx_len fx) (ca_cons (ce_var (i := 4)) ca_nil)) (cg_sub (ce_var (i := 3)) (ce_tup (ca_cons (ce_var (i := 5)) (ca_cons (ce_var (i := 6)) ca_nil))) (cset hr.units)))))))))))))))
def ps_Conductor_outcome : List Str := ["self", "start"]
theorem len_Conductor_outcome : ∀ cs G R, sp_Conductor_outcome cs G R → cs.length = 2 := fun cs G R h => by
  unfold sp_Conductor_outcome at h
  try unfold spLenF at h
  split at h <;> first | rfl | exact h.elim
theorem ok_Conductor_outcome {Γ : Gam} (fx : Fx Γ) {f : Addr} {fd : FuncData} {dvs : List V} (F : FunD Γ.K d_Conductor_outcome.name d_Conductor_outcome.qual (defArgs d_Conductor_outcome.st) (defBody d_Conductor_outcome.st) (defScope d_Conductor_outcome.st) dvs [] f fd) : FnOk Γ.P Γ.w Γ.K Γ.mg Γ.base CX0 10 f fd ps_Conductor_outcome (lSp ⟨Γ.P, Γ.w, Γ.K, NM⟩ sp_Conductor_outcome) :=
  fn_ok3 (ar := 0) (T := T_Conductor_outcome) F (fs_ok (N := NL_Conductor_outcome) (by decide +kernel)) len_Conductor_outcome (fun cdv A outer s H E hr => b_Conductor_outcome fx hr) p_Conductor_outcome
theorem f_Conductor_outcome_1 {Γ : Gam} (fx : Fx Γ) : MeN Γ NM c_Conductor "outcome" 10 sp_Conductor_outcome [.a .non] 2 := by
  obtain ⟨fd, F⟩ := fx.says.def_ 65 (d := d_Conductor_outcome) rfl
  exact ⟨_, He.meth_ok (x := "Conductor") (m := "outcome") (fx.says.fact 83 (f := .o (.meth "Conductor" "outcome")) rfl), dfl_fng (j := 0) (ok_Conductor_outcome fx F) rfl (fun H => (.cons (.a _) .nil)) (F.binds1 1 0 (List.cons_ne_nil _ _) rfl fun _ _ _ _ _ _ _ us its h1 h2 => match us, its, h1, h2 with | [_], [_], _, _ => ⟨_, rfl, rfl⟩)⟩
theorem f_Conductor_outcome {Γ : Gam} (fx : Fx Γ) : MeN Γ NM c_Conductor "outcome" 10 sp_Conductor_outcome [] 2 := by
  obtain ⟨fd, F⟩ := fx.says.def_ 65 (d := d_Conductor_outcome) rfl
  exact ⟨_, He.meth_ok (x := "Conductor") (m := "outcome") (fx.says.fact 83 (f := .o (.meth "Conductor" "outcome")) rfl), dfl_fng (j := 1) (ok_Conductor_outcome fx F) rfl (fun H => .nil) (F.binds1 2 1 (List.cons_ne_nil _ _) rfl fun _ _ _ _ _ _ _ us its h1 h2 => match us, its, h1, h2 with | [_, _], [_], _, _ => ⟨_, rfl, rfl⟩)⟩
def NL_check_calling : List Str := ["method", "calling", "number", "letter"]
theorem nd_check_calling : NL_check_calling.Nodup := by decide +kernel
theorem b_check_calling {Γ : Gam} (fx : Fx Γ) {f : Addr} {cdv : Value} {A : Around} {outer : List Env} {s : Shared} {H : Hp} {E : XK} (hr : Room (0) (A.deeper (envOfC "check_calling" (defScope (top 34)) s.heap.objs.size f cdv))) :
    PSs (cxOf CX0 Γ.P Γ.w Γ.K Γ.mg Γ.base NL_check_calling "check_calling" (defScope (top 34)) f cdv A outer s H E) (defBody (top 34)) (lS ⟨Γ.P, Γ.w, Γ.K, NM⟩ T_check_calling) :=
  (css_cons (cs_if (PW.pt (cw_or (ct_not (ct_truth (ce_isi (fx_isinstance fx) (fx_str fx) (ce_var (i := 1))))) (cw_one_or (ct_cmp cop_gt (ce_callB (cc_len [] hr.units) (fx_len fx) (ca_cons (ce_var (i := 1)) ca_nil)) ce_int)))) (css_one cs_never) css_nil)
    (css_one (cs_for passes_cx0 rfl (ci_enum (fx_enumerate fx) (ce_var (i := 1))) (cg_tup rfl (cgs_cons (cg_name (i := 2) nd_check_calling) (cgs_cons (cg_name (i := 3) nd_check_calling) cgs_nil))) (css_one (cs_if (ct_cmp (cop_notIn .nil hr.units) (ce_var (i := 3)) (ce_attr .nil hr (ce_var (i := 0)) nmA_nd)) (css_one cs_never) css_nil)))))
def ps_check_calling : List Str := ["method", "calling"]
theorem len_check_calling : ∀ cs G R, sp_check_calling cs G R → cs.length = 2 := fun cs G R h => by
  unfold sp_check_calling at h
  try unfold spLenF at h
  split at h <;> first | rfl | exact h.elim
theorem ok_check_calling {Γ : Gam} (fx : Fx Γ) {f : Addr} {fd : FuncData} {dvs : List V} (F : FunD Γ.K d_check_calling.name d_check_calling.qual (defArgs d_check_calling.st) (defBody d_check_calling.st) (defScope d_check_calling.st) dvs [] f fd) : FnOk Γ.P Γ.w Γ.K Γ.mg Γ.base CX0 1 f fd ps_check_calling (lSp ⟨Γ.P, Γ.w, Γ.K, NM⟩ sp_check_calling) :=
  fn_ok3 (ar := 0) (T := T_check_calling) F (fs_ok (N := NL_check_calling) (by decide +kernel)) len_check_calling (fun cdv A outer s H E hr => b_check_calling fx hr) p_check_calling
theorem f_check_calling {Γ : Gam} (fx : Fx Γ) : FnN Γ NM "check_calling" 1 sp_check_calling [] 2 := by
  obtain ⟨fd, F⟩ := fx.says.def_ 11 (d := d_check_calling) rfl
  exact ⟨_, He.glo_ok fx.kin fx.glob (fx.says.fact 12 (f := .o (.glo "check_calling")) rfl), F.kp, ⟨fd, ps_check_calling, [], [], ok_check_calling fx F, rfl, fun _ => .nil, .nil, F.bindsN fun _ _ _ _ _ _ us hl => match us, hl with | [_, _], _ => rfl⟩⟩
def NL_Touch___init__ : List Str := ["self", "method", "calling", "start", "heads", "rows", "letter", "head", "row"]
theorem nd_Touch___init__ : NL_Touch___init__.Nodup := by decide +kernel
theorem b_Touch___init__ {Γ : Gam} (fx : Fx Γ) {f : Addr} {cdv : Value} {A : Around} {outer : List Env} {s : Shared} {H : Hp} {E : XK} (hr : Room (9) (A.deeper (envOfC "Touch.__init__" (defScope (inClass (top 67) 0)) s.heap.objs.size f cdv))) :
    PSs (cxOf CX0 Γ.P Γ.w Γ.K Γ.mg Γ.base NL_Touch___init__ "Touch.__init__" (defScope (inClass (top 67) 0)) f cdv A outer s H E) (defBody (inClass (top 67) 0)) (lS ⟨Γ.P, Γ.w, Γ.K, NM⟩ T_Touch___init__) :=
  (css_cons (cs_expr (ce_call (f_check_calling fx) hr (ca_cons (ce_var (i := 1)) (ca_cons (ce_var (i := 2)) ca_nil))))
    (css_cons (cs_fld (cn := c_Touch) (f := a_method) nmA_nd (na_Touch_method fx) (ce_var (i := 0)) (ce_var (i := 1)))
    (css_cons (cs_fld (cn := c_Touch) (f := a_calling) nmA_nd (na_Touch_calling fx) (ce_var (i := 0)) (ce_var (i := 2)))
    (css_cons (cs_fld (cn := c_Touch) (f := a_start) nmA_nd (na_Touch_start fx) (ce_var (i := 0)) (ce_if (ct_cmp cop_is (ce_var (i := 3)) ce_non) (ce_attr .nil hr (ce_var (i := 1)) nmA_nd) (ce_call (f_told_row fx) hr (ca_cons (ce_var (i := 3)) (ca_cons (ce_attr .nil hr (ce_var (i := 1)) nmA_nd) ca_nil)))))
    (css_cons (cs_set (i := 4) nd_Touch___init__ (ce_lst (ca_cons (ce_attr .nil hr (ce_var (i := 0)) nmA_nd) ca_nil)))
    (css_cons (cs_set (i := 5) nd_Touch___init__ (ce_lst ca_nil))
    (css_cons (cs_for passes_cx0 rfl (ci_val (ce_var (i := 2))) (cg_name (i := 6) nd_Touch___init__) (css_cons (cs_set (i := 7) nd_Touch___init__ (ce_ix (cix hr.units) (ce_var (i := 4)) (ce_neg ce_int)))
    (css_cons (cs_expr (ce_bm bm_extend (ce_var (i := 5)) (ca_cons (ce_lc (own := [("row", 8)]) rfl nd_Touch___init__ (ci_val (ce_ix (cix hr.units) (ce_attr .nil hr (ce_var (i := 1)) nmA_nd) (ce_var (i := 6)))) (blk_ok (N := NL_Touch___init__) (sc := defScope (inClass (top 67) 0)) (own := [("row", 8)]) (by decide +kernel)) (by decide) (fun _ _ _ _ _ => (cg_name (i := 8) nd_Touch___init__)) (fun _ _ _ _ _ => cts_nil) (fun _ _ _ _ _ => (ce_call (f_times fx) hr (ca_cons (ce_var (i := 7)) (ca_cons (ce_var (i := 8)) ca_nil))))) ca_nil)))
    (css_one (cs_expr (ce_bm bm_append (ce_var (i := 4)) (ca_cons (ce_call (f_times fx) hr (ca_cons (ce_var (i := 7)) (ca_cons (ce_ix (cix hr.units) (ce_attr .nil hr (ce_var (i := 1)) nmA_nd) (ce_var (i := 6))) ca_nil))) ca_nil)))))))
    (css_cons (cs_fld (cn := c_Touch) (f := a_row_of_heads) nmA_nd (na_Touch_row_of_heads fx) (ce_var (i := 0)) (ce_callTy cc_tuple (fx_tuple fx) (ca_cons (ce_var (i := 4)) ca_nil)))
    (css_one (cs_fld (cn := c_Touch) (f := a_rows) nmA_nd (na_Touch_rows fx) (ce_var (i := 0)) (ce_callTy cc_tuple (fx_tuple fx) (ca_cons (ce_var (i := 5)) ca_nil))))))))))))
def ps_Touch___init__ : List Str := ["self", "method", "calling", "start"]
theorem len_Touch___init__ : ∀ cs G R, sp_Touch___init__ cs G R → cs.length = 4 := fun cs G R h => by
  unfold sp_Touch___init__ at h
  try unfold spLenF at h
  split at h <;> first | rfl | exact h.elim
theorem ok_Touch___init__ {Γ : Gam} (fx : Fx Γ) {f : Addr} {fd : FuncData} {dvs : List V} (F : FunD Γ.K d_Touch___init__.name d_Touch___init__.qual (defArgs d_Touch___init__.st) (defBody d_Touch___init__.st) (defScope d_Touch___init__.st) dvs [] f fd) : FnOk Γ.P Γ.w Γ.K Γ.mg Γ.base CX0 10 f fd ps_Touch___init__ (lSp ⟨Γ.P, Γ.w, Γ.K, NM⟩ sp_Touch___init__) :=
  fn_ok3 (ar := 0) (T := T_Touch___init__) F (fs_ok (N := NL_Touch___init__) (by decide +kernel)) len_Touch___init__ (fun cdv A outer s H E hr => b_Touch___init__ fx hr) p_Touch___init__
theorem m_Touch_3 {Γ : Gam} (fx : Fx Γ) : MkN Γ NM c_Touch 10 sp_Touch___init__ [.a .non] 4 := by
  obtain ⟨fd, F⟩ := fx.says.def_ 80 (d := d_Touch___init__) rfl
  exact ⟨_, He.glo_ok fx.kin fx.glob (fx.says.fact 109 (f := .o (.glo "Touch")) rfl), He.mkr_ok (x := "Touch") (fx.says.fact 111 (f := .o (.mkr "Touch")) rfl), He.cls_ok (x := "Touch") (fx.says.fact 110 (f := .o (.cls "Touch")) rfl), dfl_fng (j := 0) (ok_Touch___init__ fx F) rfl (fun H => (.cons (.a _) .nil)) (F.binds1 3 0 (List.cons_ne_nil _ _) rfl fun _ _ _ _ _ _ _ us its h1 h2 => match us, its, h1, h2 with | [_, _, _], [_], _, _ => ⟨_, rfl, rfl⟩)⟩
theorem m_Touch {Γ : Gam} (fx : Fx Γ) : MkN Γ NM c_Touch 10 sp_Touch___init__ [] 4 := by
  obtain ⟨fd, F⟩ := fx.says.def_ 80 (d := d_Touch___init__) rfl
  exact ⟨_, He.glo_ok fx.kin fx.glob (fx.says.fact 109 (f := .o (.glo "Touch")) rfl), He.mkr_ok (x := "Touch") (fx.says.fact 111 (f := .o (.mkr "Touch")) rfl), He.cls_ok (x := "Touch") (fx.says.fact 110 (f := .o (.cls "Touch")) rfl), dfl_fng (j := 1) (ok_Touch___init__ fx F) rfl (fun H => .nil) (F.binds1 4 1 (List.cons_ne_nil _ _) rfl fun _ _ _ _ _ _ _ us its h1 h2 => match us, its, h1, h2 with | [_, _, _, _], [_], _, _ => ⟨_, rfl, rfl⟩)⟩
def NL_spots_of : List Str := ["rows", "there", "spot", "row"]
theorem nd_spots_of : NL_spots_of.Nodup := by decide +kernel
theorem b_spots_of {Γ : Gam} (fx : Fx Γ) {f : Addr} {cdv : Value} {A : Around} {outer : List Env} {s : Shared} {H : Hp} {E : XK} (hr : Room (0) (A.deeper (envOfC "spots_of" (defScope (top 66)) s.heap.objs.size f cdv))) :
    PSs (cxOf CX0 Γ.P Γ.w Γ.K Γ.mg Γ.base NL_spots_of "spots_of" (defScope (top 66)) f cdv A outer s H E) (defBody (top 66)) (lS ⟨Γ.P, Γ.w, Γ.K, NM⟩ T_spots_of) :=
  (css_cons (cs_set (i := 1) nd_spots_of (ce_newD (t := true)))
    (css_cons (cs_for passes_cx0 rfl (ci_enum (fx_enumerate fx) (ce_var (i := 0))) (cg_tup rfl (cgs_cons (cg_name (i := 2) nd_spots_of) (cgs_cons (cg_name (i := 3) nd_spots_of) cgs_nil))) (css_cons (cs_if (ct_cmp (cop_in .nil hr.units) (ce_var (i := 3)) (ce_var (i := 1))) (css_one (cs_ret (ce_tup (ca_cons (ce_ix (cix hr.units) (ce_var (i := 1)) (ce_var (i := 3))) (ca_cons (ce_var (i := 2)) ca_nil))))) css_nil)
    (css_one (cs_asg (wk := false) (ce_var (i := 2)) (cg_sub (ce_var (i := 1)) (ce_var (i := 3)) (cset hr.units))))))
    (css_one (cs_ret ce_non))))
def ps_spots_of : List Str := ["rows"]
theorem len_spots_of : ∀ cs G R, sp_spots_of cs G R → cs.length = 1 := fun cs G R h => by
  unfold sp_spots_of at h
  try unfold spLenF at h
  split at h <;> first | rfl | exact h.elim
theorem ok_spots_of {Γ : Gam} (fx : Fx Γ) {f : Addr} {fd : FuncData} {dvs : List V} (F : FunD Γ.K d_spots_of.name d_spots_of.qual (defArgs d_spots_of.st) (defBody d_spots_of.st) (defScope d_spots_of.st) dvs [] f fd) : FnOk Γ.P Γ.w Γ.K Γ.mg Γ.base CX0 1 f fd ps_spots_of (lSp ⟨Γ.P, Γ.w, Γ.K, NM⟩ sp_spots_of) :=
  fn_ok3 (ar := 0) (T := T_spots_of) F (fs_ok (N := NL_spots_of) (by decide +kernel)) len_spots_of (fun cdv A outer s H E hr => b_spots_of fx hr) p_spots_of
theorem f_spots_of {Γ : Gam} (fx : Fx Γ) : FnN Γ NM "spots_of" 1 sp_spots_of [] 1 := by
  obtain ⟨fd, F⟩ := fx.says.def_ 32 (d := d_spots_of) rfl
  exact ⟨_, He.glo_ok fx.kin fx.glob (fx.says.fact 33 (f := .o (.glo "spots_of")) rfl), F.kp, ⟨fd, ps_spots_of, [], [], ok_spots_of fx F, rfl, fun _ => .nil, .nil, F.bindsN fun _ _ _ _ _ _ us hl => match us, hl with | [_], _ => rfl⟩⟩
def NL_Touch_is_true : List Str := ["self"]
theorem nd_Touch_is_true : NL_Touch_is_true.Nodup := by decide +kernel
theorem b_Touch_is_true {Γ : Gam} (fx : Fx Γ) {f : Addr} {cdv : Value} {A : Around} {outer : List Env} {s : Shared} {H : Hp} {E : XK} (hr : Room (3) (A.deeper (envOfC "Touch.is_true" (defScope (inClass (top 67) 4)) s.heap.objs.size f cdv))) :
    PSs (cxOf CX0 Γ.P Γ.w Γ.K Γ.mg Γ.base NL_Touch_is_true "Touch.is_true" (defScope (inClass (top 67) 4)) f cdv A outer s H E) (defBody (inClass (top 67) 4)) (lS ⟨Γ.P, Γ.w, Γ.K, NM⟩ T_Touch_is_true) :=
  (css_one (cs_ret (ce_cmp cop_is (ce_call (f_spots_of fx) hr (ca_cons (ce_attr .nil hr (ce_var (i := 0)) nmA_nd) ca_nil)) ce_non)))
def ps_Touch_is_true : List Str := ["self"]
theorem len_Touch_is_true : ∀ cs G R, sp_Touch_is_true cs G R → cs.length = 1 := fun cs G R h => by
  unfold sp_Touch_is_true at h
  try unfold spLenF at h
  split at h <;> first | rfl | exact h.elim
theorem ok_Touch_is_true {Γ : Gam} (fx : Fx Γ) {f : Addr} {fd : FuncData} {dvs : List V} (F : FunD Γ.K d_Touch_is_true.name d_Touch_is_true.qual (defArgs d_Touch_is_true.st) (defBody d_Touch_is_true.st) (defScope d_Touch_is_true.st) dvs [] f fd) : FnOk Γ.P Γ.w Γ.K Γ.mg Γ.base CX0 4 f fd ps_Touch_is_true (lSp ⟨Γ.P, Γ.w, Γ.K, NM⟩ sp_Touch_is_true) :=
  fn_ok3 (ar := 0) (T := T_Touch_is_true) F (fs_ok (N := NL_Touch_is_true) (by decide +kernel)) len_Touch_is_true (fun cdv A outer s H E hr => b_Touch_is_true fx hr) p_Touch_is_true
theorem f_Touch_is_true {Γ : Gam} (fx : Fx Γ) : PrN Γ NM c_Touch "is_true" 4 sp_Touch_is_true := by
  obtain ⟨fd, F⟩ := fx.says.def_ 84 (d := d_Touch_is_true) rfl
  exact ⟨_, _, propOk_ok (K := Γ.K) (C := He.ga Γ.K "Touch") (f := "is_true") (fx.says.fact 121 (f := .prop "Touch" "is_true") rfl), ⟨fd, ps_Touch_is_true, [], [], ok_Touch_is_true fx F, rfl, fun _ => .nil, .nil, F.bindsN fun _ _ _ _ _ _ us hl => match us, hl with | [_], _ => rfl⟩⟩
def NL_Touch_spots : List Str := ["self"]
theorem nd_Touch_spots : NL_Touch_spots.Nodup := by decide +kernel
theorem b_Touch_spots {Γ : Gam} (fx : Fx Γ) {f : Addr} {cdv : Value} {A : Around} {outer : List Env} {s : Shared} {H : Hp} {E : XK} (hr : Room (3) (A.deeper (envOfC "Touch.spots" (defScope (inClass (top 67) 5)) s.heap.objs.size f cdv))) :
    PSs (cxOf CX0 Γ.P Γ.w Γ.K Γ.mg Γ.base NL_Touch_spots "Touch.spots" (defScope (inClass (top 67) 5)) f cdv A outer s H E) (defBody (inClass (top 67) 5)) (lS ⟨Γ.P, Γ.w, Γ.K, NM⟩ T_Touch_spots) :=
  (css_one (cs_ret (ce_call (f_spots_of fx) hr (ca_cons (ce_attr .nil hr (ce_var (i := 0)) nmA_nd) ca_nil))))
def ps_Touch_spots : List Str := ["self"]
theorem len_Touch_spots : ∀ cs G R, sp_Touch_spots cs G R → cs.length = 1 := fun cs G R h => by
  unfold sp_Touch_spots at h
  try unfold spLenF at h
  split at h <;> first | rfl | exact h.elim
theorem ok_Touch_spots {Γ : Gam} (fx : Fx Γ) {f : Addr} {fd : FuncData} {dvs : List V} (F : FunD Γ.K d_Touch_spots.name d_Touch_spots.qual (defArgs d_Touch_spots.st) (defBody d_Touch_spots.st) (defScope d_Touch_spots.st) dvs [] f fd) : FnOk Γ.P Γ.w Γ.K Γ.mg Γ.base CX0 4 f fd ps_Touch_spots (lSp ⟨Γ.P, Γ.w, Γ.K, NM⟩ sp_Touch_spots) :=
  fn_ok3 (ar := 0) (T := T_Touch_spots) F (fs_ok (N := NL_Touch_spots) (by decide +kernel)) len_Touch_spots (fun cdv A outer s H E hr => b_Touch_spots fx hr) p_Touch_spots
theorem f_Touch_spots {Γ : Gam} (fx : Fx Γ) : PrN Γ NM c_Touch "spots" 4 sp_Touch_spots := by
  obtain ⟨fd, F⟩ := fx.says.def_ 85 (d := d_Touch_spots) rfl
  exact ⟨_, _, propOk_ok (K := Γ.K) (C := He.ga Γ.K "Touch") (f := "spots") (fx.says.fact 122 (f := .prop "Touch" "spots") rfl), ⟨fd, ps_Touch_spots, [], [], ok_Touch_spots fx F, rfl, fun _ => .nil, .nil, F.bindsN fun _ _ _ _ _ _ us hl => match us, hl with | [_], _ => rfl⟩⟩
def NL_Touch_is_round : List Str := ["self"]
theorem nd_Touch_is_round : NL_Touch_is_round.Nodup := by decide +kernel
theorem b_Touch_is_round {Γ : Gam} (fx : Fx Γ) {f : Addr} {cdv : Value} {A : Around} {outer : List Env} {s : Shared} {H : Hp} {E : XK} (hr : Room (0) (A.deeper (envOfC "Touch.is_round" (defScope (inClass (top 67) 3)) s.heap.objs.size f cdv))) :
    PSs (cxOf CX0 Γ.P Γ.w Γ.K Γ.mg Γ.base NL_Touch_is_round "Touch.is_round" (defScope (inClass (top 67) 3)) f cdv A outer s H E) (defBody (inClass (top 67) 3)) (lS ⟨Γ.P, Γ.w, Γ.K, NM⟩ T_Touch_is_round) :=
  (css_one (cs_ret (ce_and (ce_cmp cop_gt (ce_callB (cc_len [] hr.units) (fx_len fx) (ca_cons (ce_attr .nil hr (ce_var (i := 0)) nmA_nd) ca_nil)) ce_int) (ce_one (ce_cmp (cop_eq hr.units) (ce_ix (cix hr.units) (ce_attr .nil hr (ce_var (i := 0)) nmA_nd) (ce_neg ce_int)) (ce_attr .nil hr (ce_var (i := 0)) nmA_nd))))))
def ps_Touch_is_round : List Str := ["self"]
theorem len_Touch_is_round : ∀ cs G R, sp_Touch_is_round cs G R → cs.length = 1 := fun cs G R h => by
  unfold sp_Touch_is_round at h
  try unfold spLenF at h
  split at h <;> first | rfl | exact h.elim
theorem ok_Touch_is_round {Γ : Gam} (fx : Fx Γ) {f : Addr} {fd : FuncData} {dvs : List V} (F : FunD Γ.K d_Touch_is_round.name d_Touch_is_round.qual (defArgs d_Touch_is_round.st) (defBody d_Touch_is_round.st) (defScope d_Touch_is_round.st) dvs [] f fd) : FnOk Γ.P Γ.w Γ.K Γ.mg Γ.base CX0 1 f fd ps_Touch_is_round (lSp ⟨Γ.P, Γ.w, Γ.K, NM⟩ sp_Touch_is_round) :=
  fn_ok3 (ar := 0) (T := T_Touch_is_round) F (fs_ok (N := NL_Touch_is_round) (by decide +kernel)) len_Touch_is_round (fun cdv A outer s H E hr => b_Touch_is_round fx hr) p_Touch_is_round
theorem f_Touch_is_round {Γ : Gam} (fx : Fx Γ) : PrN Γ NM c_Touch "is_round" 1 sp_Touch_is_round := by
  obtain ⟨fd, F⟩ := fx.says.def_ 83 (d := d_Touch_is_round) rfl
  exact ⟨_, _, propOk_ok (K := Γ.K) (C := He.ga Γ.K "Touch") (f := "is_round") (fx.says.fact 120 (f := .prop "Touch" "is_round") rfl), ⟨fd, ps_Touch_is_round, [], [], ok_Touch_is_round fx F, rfl, fun _ => .nil, .nil, F.bindsN fun _ _ _ _ _ _ us hl => match us, hl with | [_], _ => rfl⟩⟩
def NL_Touch___len__ : List Str := ["self"]
theorem nd_Touch___len__ : NL_Touch___len__.Nodup := by decide +kernel
theorem b_Touch___len__ {Γ : Gam} (fx : Fx Γ) {f : Addr} {cdv : Value} {A : Around} {outer : List Env} {s : Shared} {H : Hp} {E : XK} (hr : Room (0) (A.deeper (envOfC "Touch.__len__" (defScope (inClass (top 67) 6)) s.heap.objs.size f cdv))) :
    PSs (cxOf CX0 Γ.P Γ.w Γ.K Γ.mg Γ.base NL_Touch___len__ "Touch.__len__" (defScope (inClass (top 67) 6)) f cdv A outer s H E) (defBody (inClass (top 67) 6)) (lS ⟨Γ.P, Γ.w, Γ.K, NM⟩ T_Touch___len__) :=
  (css_one (cs_ret (ce_callB (cc_len [] hr.units) (fx_len fx) (ca_cons (ce_attr .nil hr (ce_var (i := 0)) nmA_nd) ca_nil))))
def ps_Touch___len__ : List Str := ["self"]
theorem len_Touch___len__ : ∀ cs G R, sp_Touch___len__ cs G R → cs.length = 1 := fun cs G R h => by
  unfold sp_Touch___len__ at h
  try unfold spLenF at h
  split at h <;> first | rfl | exact h.elim
theorem ok_Touch___len__ {Γ : Gam} (fx : Fx Γ) {f : Addr} {fd : FuncData} {dvs : List V} (F : FunD Γ.K d_Touch___len__.name d_Touch___len__.qual (defArgs d_Touch___len__.st) (defBody d_Touch___len__.st) (defScope d_Touch___len__.st) dvs [] f fd) : FnOk Γ.P Γ.w Γ.K Γ.mg Γ.base CX0 1 f fd ps_Touch___len__ (lSp ⟨Γ.P, Γ.w, Γ.K, NM⟩ sp_Touch___len__) :=
  fn_ok3 (ar := 0) (T := T_Touch___len__) F (fs_ok (N := NL_Touch___len__) (by decide +kernel)) len_Touch___len__ (fun cdv A outer s H E hr => b_Touch___len__ fx hr) p_Touch___len__
theorem f_Touch___len__ {Γ : Gam} (fx : Fx Γ) : MeN Γ NM c_Touch "__len__" 1 sp_Touch___len__ [] 1 := by
  obtain ⟨fd, F⟩ := fx.says.def_ 86 (d := d_Touch___len__) rfl
  exact ⟨_, He.meth_ok (x := "Touch") (m := "__len__") (fx.says.fact 123 (f := .o (.meth "Touch" "__len__")) rfl), ⟨fd, ps_Touch___len__, [], [], ok_Touch___len__ fx F, rfl, fun _ => .nil, .nil, F.bindsN fun _ _ _ _ _ _ us hl => match us, hl with | [_], _ => rfl⟩⟩
def NL_two_rows : List Str := ["first", "second", "one", "two"]
theorem nd_two_rows : NL_two_rows.Nodup := by decide +kernel
theorem b_two_rows {Γ : Gam} (fx : Fx Γ) {f : Addr} {cdv : Value} {A : Around} {outer : List Env} {s : Shared} {H : Hp} {E : XK} (hr : Room (12) (A.deeper (envOfC "two_rows" (defScope (top 62)) s.heap.objs.size f cdv))) :
    PSs (cxOf CX0 Γ.P Γ.w Γ.K Γ.mg Γ.base NL_two_rows "two_rows" (defScope (top 62)) f cdv A outer s H E) (defBody (top 62)) (lS ⟨Γ.P, Γ.w, Γ.K, NM⟩ T_two_rows) :=
  (css_cons (cs_set (i := 2) nd_two_rows (ce_call (f_any_row fx) hr (ca_cons (ce_var (i := 0)) ca_nil)))
    (css_cons (cs_set (i := 3) nd_two_rows (ce_call (f_any_row fx) hr (ca_cons (ce_var (i := 1)) ca_nil)))
    (css_cons (cs_if (ct_cmp (cop_ne hr.units) (ce_callB (cc_len [] hr.units) (fx_len fx) (ca_cons (ce_var (i := 2)) ca_nil)) (ce_callB (cc_len [] hr.units) (fx_len fx) (ca_cons (ce_var (i := 3)) ca_nil))) (css_one cs_never) css_nil)
    (css_one (cs_ret (ce_tup (ca_cons (ce_var (i := 2)) (ca_cons (ce_var (i := 3)) ca_nil))))))))
def ps_two_rows : List Str := ["first", "second"]
theorem len_two_rows : ∀ cs G R, sp_two_rows cs G R → cs.length = 2 := fun cs G R h => by
  unfold sp_two_rows at h
  try unfold spLenF at h
  split at h <;> first | rfl | exact h.elim
theorem ok_two_rows {Γ : Gam} (fx : Fx Γ) {f : Addr} {fd : FuncData} {dvs : List V} (F : FunD Γ.K d_two_rows.name d_two_rows.qual (defArgs d_two_rows.st) (defBody d_two_rows.st) (defScope d_two_rows.st) dvs [] f fd) : FnOk Γ.P Γ.w Γ.K Γ.mg Γ.base CX0 13 f fd ps_two_rows (lSp ⟨Γ.P, Γ.w, Γ.K, NM⟩ sp_two_rows) :=
  fn_ok3 (ar := 0) (T := T_two_rows) F (fs_ok (N := NL_two_rows) (by decide +kernel)) len_two_rows (fun cdv A outer s H E hr => b_two_rows fx hr) p_two_rows
theorem f_two_rows {Γ : Gam} (fx : Fx Γ) : FnN Γ NM "two_rows" 13 sp_two_rows [] 2 := by
  obtain ⟨fd, F⟩ := fx.says.def_ 29 (d := d_two_rows) rfl
  exact ⟨_, He.glo_ok fx.kin fx.glob (fx.says.fact 30 (f := .o (.glo "two_rows")) rfl), F.kp, ⟨fd, ps_two_rows, [], [], ok_two_rows fx F, rfl, fun _ => .nil, .nil, F.bindsN fun _ _ _ _ _ _ us hl => match us, hl with | [_, _], _ => rfl⟩⟩
def NL_renamed : List Str := ["row", "names", "one", "two"]
theorem nd_renamed : NL_renamed.Nodup := by decide +kernel
theorem b_renamed {Γ : Gam} (fx : Fx Γ) {f : Addr} {cdv : Value} {A : Around} {outer : List Env} {s : Shared} {H : Hp} {E : XK} (hr : Room (15) (A.deeper (envOfC "renamed" (defScope (top 63)) s.heap.objs.size f cdv))) :
    PSs (cxOf CX0 Γ.P Γ.w Γ.K Γ.mg Γ.base NL_renamed "renamed" (defScope (top 63)) f cdv A outer s H E) (defBody (top 63)) (lS ⟨Γ.P, Γ.w, Γ.K, NM⟩ T_renamed) :=
  (css_cons (cs_asg (wk := false) (ce_call (f_two_rows fx) hr (ca_cons (ce_var (i := 0)) (ca_cons (ce_var (i := 1)) ca_nil))) (cg_tup rfl (cgs_cons (cg_name (i := 2) nd_renamed) (cgs_cons (cg_name (i := 3) nd_renamed) cgs_nil))))
    (css_one (cs_ret (ce_call (f_times fx) hr (ca_cons (ce_var (i := 3)) (ca_cons (ce_var (i := 2)) ca_nil))))))
def ps_renamed : List Str := ["row", "names"]
theorem len_renamed : ∀ cs G R, sp_renamed cs G R → cs.length = 2 := fun cs G R h => by
  unfold sp_renamed at h
  try unfold spLenF at h
  split at h <;> first | rfl | exact h.elim
theorem ok_renamed {Γ : Gam} (fx : Fx Γ) {f : Addr} {fd : FuncData} {dvs : List V} (F : FunD Γ.K d_renamed.name d_renamed.qual (defArgs d_renamed.st) (defBody d_renamed.st) (defScope d_renamed.st) dvs [] f fd) : FnOk Γ.P Γ.w Γ.K Γ.mg Γ.base CX0 16 f fd ps_renamed (lSp ⟨Γ.P, Γ.w, Γ.K, NM⟩ sp_renamed) :=
  fn_ok3 (ar := 0) (T := T_renamed) F (fs_ok (N := NL_renamed) (by decide +kernel)) len_renamed (fun cdv A outer s H E hr => b_renamed fx hr) p_renamed
theorem f_renamed {Γ : Gam} (fx : Fx Γ) : FnN Γ NM "renamed" 16 sp_renamed [] 2 := by
  obtain ⟨fd, F⟩ := fx.says.def_ 30 (d := d_renamed) rfl
  exact ⟨_, He.glo_ok fx.kin fx.glob (fx.says.fact 31 (f := .o (.glo "renamed")) rfl), F.kp, ⟨fd, ps_renamed, [], [], ok_renamed fx F, rfl, fun _ => .nil, .nil, F.bindsN fun _ _ _ _ _ _ us hl => match us, hl with | [_, _], _ => rfl⟩⟩
def NL_Touch_end : List Str := ["self"]
theorem nd_Touch_end : NL_Touch_end.Nodup := by decide +kernel
theorem b_Touch_end {Γ : Gam} (fx : Fx Γ) {f : Addr} {cdv : Value} {A : Around} {outer : List Env} {s : Shared} {H : Hp} {E : XK} (hr : Room (0) (A.deeper (envOfC "Touch.end" (defScope (inClass (top 67) 2)) s.heap.objs.size f cdv))) :
    PSs (cxOf CX0 Γ.P Γ.w Γ.K Γ.mg Γ.base NL_Touch_end "Touch.end" (defScope (inClass (top 67) 2)) f cdv A outer s H E) (defBody (inClass (top 67) 2)) (lS ⟨Γ.P, Γ.w, Γ.K, NM⟩ T_Touch_end) :=
  (css_one (cs_ret (ce_ix (cix hr.units) (ce_attr .nil hr (ce_var (i := 0)) nmA_nd) (ce_neg ce_int))))
def ps_Touch_end : List Str := ["self"]
theorem len_Touch_end : ∀ cs G R, sp_Touch_end cs G R → cs.length = 1 := fun cs G R h => by
  unfold sp_Touch_end at h
  try unfold spLenF at h
  split at h <;> first | rfl | exact h.elim
theorem ok_Touch_end {Γ : Gam} (fx : Fx Γ) {f : Addr} {fd : FuncData} {dvs : List V} (F : FunD Γ.K d_Touch_end.name d_Touch_end.qual (defArgs d_Touch_end.st) (defBody d_Touch_end.st) (defScope d_Touch_end.st) dvs [] f fd) : FnOk Γ.P Γ.w Γ.K Γ.mg Γ.base CX0 1 f fd ps_Touch_end (lSp ⟨Γ.P, Γ.w, Γ.K, NM⟩ sp_Touch_end) :=
  fn_ok3 (ar := 0) (T := T_Touch_end) F (fs_ok (N := NL_Touch_end) (by decide +kernel)) len_Touch_end (fun cdv A outer s H E hr => b_Touch_end fx hr) p_Touch_end
theorem f_Touch_end {Γ : Gam} (fx : Fx Γ) : PrN Γ NM c_Touch "end" 1 sp_Touch_end := by
  obtain ⟨fd, F⟩ := fx.says.def_ 82 (d := d_Touch_end) rfl
  exact ⟨_, _, propOk_ok (K := Γ.K) (C := He.ga Γ.K "Touch") (f := "end") (fx.says.fact 119 (f := .prop "Touch" "end") rfl), ⟨fd, ps_Touch_end, [], [], ok_Touch_end fx F, rfl, fun _ => .nil, .nil, F.bindsN fun _ _ _ _ _ _ us hl => match us, hl with | [_], _ => rfl⟩⟩
def NL_is_places : List Str := ["thing", "stage"]
theorem nd_is_places : NL_is_places.Nodup := by decide +kernel
theorem b_is_places {Γ : Gam} (fx : Fx Γ) {f : Addr} {cdv : Value} {A : Around} {outer : List Env} {s : Shared} {H : Hp} {E : XK} (hr : Room (6) (A.deeper (envOfC "is_places" (defScope (top 26)) s.heap.objs.size f cdv))) :
    PSs (cxOf CX0 Γ.P Γ.w Γ.K Γ.mg Γ.base NL_is_places "is_places" (defScope (top 26)) f cdv A outer s H E) (defBody (top 26)) (lS ⟨Γ.P, Γ.w, Γ.K, NM⟩ T_is_places) :=
  (css_one (cs_ret (ce_and (ce_call (f_is_rising fx) hr (ca_cons (ce_var (i := 0)) (ca_cons ce_int (ca_cons (ce_var (i := 1)) ca_nil)))) (ce_one (ce_cmp cop_gt (ce_callB (cc_len [] hr.units) (fx_len fx) (ca_cons (ce_var (i := 0)) ca_nil)) ce_int)))))
def ps_is_places : List Str := ["thing", "stage"]
theorem len_is_places : ∀ cs G R, sp_is_places cs G R → cs.length = 2 := fun cs G R h => by
  unfold sp_is_places at h
  try unfold spLenF at h
  split at h <;> first | rfl | exact h.elim
theorem ok_is_places {Γ : Gam} (fx : Fx Γ) {f : Addr} {fd : FuncData} {dvs : List V} (F : FunD Γ.K d_is_places.name d_is_places.qual (defArgs d_is_places.st) (defBody d_is_places.st) (defScope d_is_places.st) dvs [] f fd) : FnOk Γ.P Γ.w Γ.K Γ.mg Γ.base CX0 7 f fd ps_is_places (lSp ⟨Γ.P, Γ.w, Γ.K, NM⟩ sp_is_places) :=
  fn_ok3 (ar := 0) (T := T_is_places) F (fs_ok (N := NL_is_places) (by decide +kernel)) len_is_places (fun cdv A outer s H E hr => b_is_places fx hr) p_is_places
theorem f_is_places {Γ : Gam} (fx : Fx Γ) : FnN Γ NM "is_places" 7 sp_is_places [] 2 := by
  obtain ⟨fd, F⟩ := fx.says.def_ 5 (d := d_is_places) rfl
  exact ⟨_, He.glo_ok fx.kin fx.glob (fx.says.fact 6 (f := .o (.glo "is_places")) rfl), F.kp, ⟨fd, ps_is_places, [], [], ok_is_places fx F, rfl, fun _ => .nil, .nil, F.bindsN fun _ _ _ _ _ _ us hl => match us, hl with | [_, _], _ => rfl⟩⟩
def NL_are_wants : List Str := ["thing", "stage", "last", "pair"]
theorem nd_are_wants : NL_are_wants.Nodup := by decide +kernel
theorem b_are_wants {Γ : Gam} (fx : Fx Γ) {f : Addr} {cdv : Value} {A : Around} {outer : List Env} {s : Shared} {H : Hp} {E : XK} (hr : Room (9) (A.deeper (envOfC "are_wants" (defScope (top 38)) s.heap.objs.size f cdv))) :
    PSs (cxOf CX0 Γ.P Γ.w Γ.K Γ.mg Γ.base NL_are_wants "are_wants" (defScope (top 38)) f cdv A outer s H E) (defBody (top 38)) (lS ⟨Γ.P, Γ.w, Γ.K, NM⟩ T_are_wants) :=
  (css_cons (cs_if (ct_not (ct_truth (ce_isi (fx_isinstance fx) (fx_tuple fx) (ce_var (i := 0))))) (css_one (cs_ret ce_bl)) css_nil)
    (css_cons (cs_set (i := 2) nd_are_wants ce_int)
    (css_cons (cs_for passes_cx0 rfl (ci_val (ce_var (i := 0))) (cg_name (i := 3) nd_are_wants) (css_cons (cs_if (PW.pt (cw_or (ct_not (ct_truth (ce_isi (fx_isinstance fx) (fx_tuple fx) (ce_var (i := 3))))) (cw_one_or (ct_cmp (cop_ne hr.units) (ce_callB (cc_len [] hr.units) (fx_len fx) (ca_cons (ce_var (i := 3)) ca_nil)) ce_int)))) (css_one (cs_ret ce_bl)) css_nil)
    (css_cons (cs_if (PW.pt (cw_or (ct_not (ct_truth (ce_call (f_is_integer fx) hr (ca_cons (ce_ix (cix hr.units) (ce_var (i := 3)) ce_int) (ca_cons (ce_op cop_add (ce_var (i := 2)) ce_int) (ca_cons (ce_var (i := 1)) ca_nil)))))) (cw_one_or (ct_not (ct_truth (ce_call (f_is_places fx) hr (ca_cons (ce_ix (cix hr.units) (ce_var (i := 3)) ce_int) (ca_cons (ce_var (i := 1)) ca_nil)))))))) (css_one (cs_ret ce_bl)) css_nil)
    (css_one (cs_set (i := 2) nd_are_wants (ce_ix (cix hr.units) (ce_var (i := 3)) ce_int))))))
    (css_one (cs_ret ce_bl)))))
def ps_are_wants : List Str := ["thing", "stage"]
theorem len_are_wants : ∀ cs G R, sp_are_wants cs G R → cs.length = 2 := fun cs G R h => by
  unfold sp_are_wants at h
  try unfold spLenF at h
  split at h <;> first | rfl | exact h.elim
theorem ok_are_wants {Γ : Gam} (fx : Fx Γ) {f : Addr} {fd : FuncData} {dvs : List V} (F : FunD Γ.K d_are_wants.name d_are_wants.qual (defArgs d_are_wants.st) (defBody d_are_wants.st) (defScope d_are_wants.st) dvs [] f fd) : FnOk Γ.P Γ.w Γ.K Γ.mg Γ.base CX0 10 f fd ps_are_wants (lSp ⟨Γ.P, Γ.w, Γ.K, NM⟩ sp_are_wants) :=
  fn_ok3 (ar := 0) (T := T_are_wants) F (fs_ok (N := NL_are_wants) (by decide +kernel)) len_are_wants (fun cdv A outer s H E hr => b_are_wants fx hr) p_are_wants
theorem f_are_wants {Γ : Gam} (fx : Fx Γ) : FnN Γ NM "are_wants" 10 sp_are_wants [] 2 := by
  obtain ⟨fd, F⟩ := fx.says.def_ 13 (d := d_are_wants) rfl
  exact ⟨_, He.glo_ok fx.kin fx.glob (fx.says.fact 14 (f := .o (.glo "are_wants")) rfl), F.kp, ⟨fd, ps_are_wants, [], [], ok_are_wants fx F, rfl, fun _ => .nil, .nil, F.bindsN fun _ _ _ _ _ _ us hl => match us, hl with | [_, _], _ => rfl⟩⟩
def NL_is_entry : List Str := ["thing", "method"]
theorem nd_is_entry : NL_is_entry.Nodup := by decide +kernel
theorem b_is_entry {Γ : Gam} (fx : Fx Γ) {f : Addr} {cdv : Value} {A : Around} {outer : List Env} {s : Shared} {H : Hp} {E : XK} (hr : Room (12) (A.deeper (envOfC "is_entry" (defScope (top 39)) s.heap.objs.size f cdv))) :
    PSs (cxOf CX0 Γ.P Γ.w Γ.K Γ.mg Γ.base NL_is_entry "is_entry" (defScope (top 39)) f cdv A outer s H E) (defBody (top 39)) (lS ⟨Γ.P, Γ.w, Γ.K, NM⟩ T_is_entry) :=
  (css_cons (cs_if (PW.pt (cw_or (ct_not (ct_truth (ce_isi (fx_isinstance fx) (fx_tuple fx) (ce_var (i := 0))))) (cw_one_or (ct_cmp (cop_ne hr.units) (ce_callB (cc_len [] hr.units) (fx_len fx) (ca_cons (ce_var (i := 0)) ca_nil)) ce_int)))) (css_one (cs_ret ce_bl)) css_nil)
    (css_cons (cs_if (PW.pt (cw_or (ct_not (ct_truth (ce_call (f_is_integer fx) hr (ca_cons (ce_ix (cix hr.units) (ce_var (i := 0)) ce_int) (ca_cons ce_int (ca_cons ce_int ca_nil)))))) (cw_one_or (ct_not (ct_truth (ce_call (f_is_integer fx) hr (ca_cons (ce_ix (cix hr.units) (ce_var (i := 0)) ce_int) (ca_cons ce_int (ca_cons ce_int ca_nil))))))))) (css_one (cs_ret ce_bl)) css_nil)
    (css_cons (cs_if (PW.pt (cw_or (ct_not (ct_truth (ce_isi (fx_isinstance fx) (fx_str fx) (ce_ix (cix hr.units) (ce_var (i := 0)) ce_int)))) (cw_one_or (ct_cmp (cop_notIn .nil hr.units) (ce_ix (cix hr.units) (ce_var (i := 0)) ce_int) (ce_attr .nil hr (ce_var (i := 1)) nmA_nd))))) (css_one (cs_ret ce_bl)) css_nil)
    (css_one (cs_ret (ce_call (f_are_wants fx) hr (ca_cons (ce_ix (cix hr.units) (ce_var (i := 0)) ce_int) (ca_cons (ce_attr .nil hr (ce_var (i := 1)) nmA_nd) ca_nil))))))))
def ps_is_entry : List Str := ["thing", "method"]
theorem len_is_entry : ∀ cs G R, sp_is_entry cs G R → cs.length = 2 := fun cs G R h => by
  unfold sp_is_entry at h
  try unfold spLenF at h
  split at h <;> first | rfl | exact h.elim
theorem ok_is_entry {Γ : Gam} (fx : Fx Γ) {f : Addr} {fd : FuncData} {dvs : List V} (F : FunD Γ.K d_is_entry.name d_is_entry.qual (defArgs d_is_entry.st) (defBody d_is_entry.st) (defScope d_is_entry.st) dvs [] f fd) : FnOk Γ.P Γ.w Γ.K Γ.mg Γ.base CX0 13 f fd ps_is_entry (lSp ⟨Γ.P, Γ.w, Γ.K, NM⟩ sp_is_entry) :=
  fn_ok3 (ar := 0) (T := T_is_entry) F (fs_ok (N := NL_is_entry) (by decide +kernel)) len_is_entry (fun cdv A outer s H E hr => b_is_entry fx hr) p_is_entry
theorem f_is_entry {Γ : Gam} (fx : Fx Γ) : FnN Γ NM "is_entry" 13 sp_is_entry [] 2 := by
  obtain ⟨fd, F⟩ := fx.says.def_ 14 (d := d_is_entry) rfl
  exact ⟨_, He.glo_ok fx.kin fx.glob (fx.says.fact 15 (f := .o (.glo "is_entry")) rfl), F.kp, ⟨fd, ps_is_entry, [], [], ok_is_entry fx F, rfl, fun _ => .nil, .nil, F.bindsN fun _ _ _ _ _ _ us hl => match us, hl with | [_, _], _ => rfl⟩⟩
def NL_check_entries : List Str := ["method", "entries", "number", "entry"]
theorem nd_check_entries : NL_check_entries.Nodup := by decide +kernel
theorem b_check_entries {Γ : Gam} (fx : Fx Γ) {f : Addr} {cdv : Value} {A : Around} {outer : List Env} {s : Shared} {H : Hp} {E : XK} (hr : Room (15) (A.deeper (envOfC "check_entries" (defScope (top 40)) s.heap.objs.size f cdv))) :
    PSs (cxOf CX0 Γ.P Γ.w Γ.K Γ.mg Γ.base NL_check_entries "check_entries" (defScope (top 40)) f cdv A outer s H E) (defBody (top 40)) (lS ⟨Γ.P, Γ.w, Γ.K, NM⟩ T_check_entries) :=
  (css_cons (cs_if (ct_not (ct_truth (ce_isi (fx_isinstance fx) (fx_tuple fx) (ce_var (i := 1))))) (css_one cs_never) css_nil)
    (css_cons (cs_for passes_cx0 rfl (ci_enum (fx_enumerate fx) (ce_var (i := 1))) (cg_tup rfl (cgs_cons (cg_name (i := 2) nd_check_entries) (cgs_cons (cg_name (i := 3) nd_check_entries) cgs_nil))) (css_one (cs_if (ct_not (ct_truth (ce_call (f_is_entry fx) hr (ca_cons (ce_var (i := 3)) (ca_cons (ce_var (i := 0)) ca_nil))))) (css_one cs_never) css_nil)))
    (css_one (cs_if (ct_cmp cop_gt (ce_callB (cc_len [] hr.units) (fx_len fx) (ca_cons (ce_var (i := 1)) ca_nil)) (ce_gint (fx_MOST_ENTRIES fx))) (css_one cs_never) css_nil))))
def ps_check_entries : List Str := ["method", "entries"]
theorem len_check_entries : ∀ cs G R, sp_check_entries cs G R → cs.length = 2 := fun cs G R h => by
  unfold sp_check_entries at h
  try unfold spLenF at h
  split at h <;> first | rfl | exact h.elim
theorem ok_check_entries {Γ : Gam} (fx : Fx Γ) {f : Addr} {fd : FuncData} {dvs : List V} (F : FunD Γ.K d_check_entries.name d_check_entries.qual (defArgs d_check_entries.st) (defBody d_check_entries.st) (defScope d_check_entries.st) dvs [] f fd) : FnOk Γ.P Γ.w Γ.K Γ.mg Γ.base CX0 16 f fd ps_check_entries (lSp ⟨Γ.P, Γ.w, Γ.K, NM⟩ sp_check_entries) :=
  fn_ok3 (ar := 0) (T := T_check_entries) F (fs_ok (N := NL_check_entries) (by decide +kernel)) len_check_entries (fun cdv A outer s H E hr => b_check_entries fx hr) p_check_entries
theorem f_check_entries {Γ : Gam} (fx : Fx Γ) : FnN Γ NM "check_entries" 16 sp_check_entries [] 2 := by
  obtain ⟨fd, F⟩ := fx.says.def_ 15 (d := d_check_entries) rfl
  exact ⟨_, He.glo_ok fx.kin fx.glob (fx.says.fact 16 (f := .o (.glo "check_entries")) rfl), F.kp, ⟨fd, ps_check_entries, [], [], ok_check_entries fx F, rfl, fun _ => .nil, .nil, F.bindsN fun _ _ _ _ _ _ us hl => match us, hl with | [_, _], _ => rfl⟩⟩
def NL_Book___init__ : List Str := ["self", "method", "entries", "kept", "entry", "other"]
theorem nd_Book___init__ : NL_Book___init__.Nodup := by decide +kernel
theorem b_Book___init__ {Γ : Gam} (fx : Fx Γ) {f : Addr} {cdv : Value} {A : Around} {outer : List Env} {s : Shared} {H : Hp} {E : XK} (hr : Room (18) (A.deeper (envOfC "Book.__init__" (defScope (inClass (top 44) 1)) s.heap.objs.size f cdv))) :
    PSs (cxOf CX0 Γ.P Γ.w Γ.K Γ.mg Γ.base NL_Book___init__ "Book.__init__" (defScope (inClass (top 44) 1)) f cdv A outer s H E) (defBody (inClass (top 44) 1)) (lS ⟨Γ.P, Γ.w, Γ.K, NM⟩ T_Book___init__) :=
  (css_cons (cs_set (i := 3) nd_Book___init__ (ce_call (f_deep_1 fx) hr (ca_cons (ce_var (i := 2)) ca_nil)))
    (css_cons (cs_expr (ce_call (f_check_entries fx) hr (ca_cons (ce_var (i := 1)) (ca_cons (ce_var (i := 3)) ca_nil))))
    (css_cons (cs_fld (cn := c_Book) (f := a_method) nmA_nd (na_Book_method fx) (ce_var (i := 0)) (ce_var (i := 1)))
    (css_cons (cs_fld (cn := c_Book) (f := a_entries) nmA_nd (na_Book_entries fx) (ce_var (i := 0)) (ce_var (i := 3)))
    (css_one (cs_fld (cn := c_Book) (f := a_by_state) nmA_nd (na_Book_by_state fx) (ce_var (i := 0)) (ce_dc (own := [("entry", 4)]) rfl nd_Book___init__ (ci_val (ce_var (i := 3))) (blk_ok (N := NL_Book___init__) (sc := defScope (inClass (top 44) 1)) (own := [("entry", 4)]) (by decide +kernel)) (by decide) (fun _ _ _ _ _ => (cg_name (i := 4) nd_Book___init__)) (fun _ _ _ _ _ => cts_nil) (fun _ _ _ _ _ => (ce_ix (cix hr.units) (ce_var (i := 4)) ce_int)) (fun _ _ _ _ _ => (ce_lc (own := [("other", 5)]) rfl nd_Book___init__ (ci_val (ce_var (i := 3))) (blk_ok (N := NL_Book___init__) (own := [("other", 5)]) (by kernel_rfl)) (by decide) (fun _ _ _ _ _ => (cg_name (i := 5) nd_Book___init__)) (fun _ _ _ _ _ => (cts_one (ct_cmp (cop_eq hr.units) (ce_ix (cix hr.units) (ce_var (i := 5)) ce_int) (ce_ix (cix hr.units) (ce_var (i := 4)) ce_int)))) (fun _ _ _ _ _ => (ce_var (i := 5))))))))))))
def ps_Book___init__ : List Str := ["self", "method", "entries"]
theorem len_Book___init__ : ∀ cs G R, sp_Book___init__ cs G R → cs.length = 3 := fun cs G R h => by
  unfold sp_Book___init__ at h
  try unfold spLenF at h
  split at h <;> first | rfl | exact h.elim
theorem ok_Book___init__ {Γ : Gam} (fx : Fx Γ) {f : Addr} {fd : FuncData} {dvs : List V} (F : FunD Γ.K d_Book___init__.name d_Book___init__.qual (defArgs d_Book___init__.st) (defBody d_Book___init__.st) (defScope d_Book___init__.st) dvs [] f fd) : FnOk Γ.P Γ.w Γ.K Γ.mg Γ.base CX0 19 f fd ps_Book___init__ (lSp ⟨Γ.P, Γ.w, Γ.K, NM⟩ sp_Book___init__) :=
  fn_ok3 (ar := 0) (T := T_Book___init__) F (fs_ok (N := NL_Book___init__) (by decide +kernel)) len_Book___init__ (fun cdv A outer s H E hr => b_Book___init__ fx hr) p_Book___init__
theorem m_Book {Γ : Gam} (fx : Fx Γ) : MkN Γ NM c_Book 19 sp_Book___init__ [] 3 := by
  obtain ⟨fd, F⟩ := fx.says.def_ 54 (d := d_Book___init__) rfl
  exact ⟨_, He.glo_ok fx.kin fx.glob (fx.says.fact 59 (f := .o (.glo "Book")) rfl), He.mkr_ok (x := "Book") (fx.says.fact 61 (f := .o (.mkr "Book")) rfl), He.cls_ok (x := "Book") (fx.says.fact 60 (f := .o (.cls "Book")) rfl), dfl_fng (j := 1) (ok_Book___init__ fx F) rfl (fun H => .nil) (F.binds1 3 1 (List.cons_ne_nil _ _) rfl fun _ _ _ _ _ _ _ us its h1 h2 => match us, its, h1, h2 with | [_, _, _], [_], _, _ => ⟨_, rfl, rfl⟩)⟩
def NL_Conductor_as_book : List Str := ["self", "entries", "memory", "row", "number", "letter", "after"]
theorem nd_Conductor_as_book : NL_Conductor_as_book.Nodup := by decide +kernel
theorem b_Conductor_as_book {Γ : Gam} (fx : Fx Γ) {f : Addr} {cdv : Value} {A : Around} {outer : List Env} {s : Shared} {H : Hp} {E : XK} (hr : Room (21) (A.deeper (envOfC "Conductor.as_book" (defScope (inClass (top 49) 3)) s.heap.objs.size f cdv))) :
    PSs (cxOf CX0 Γ.P Γ.w Γ.K Γ.mg Γ.base NL_Conductor_as_book "Conductor.as_book" (defScope (inClass (top 49) 3)) f cdv A outer s H E) (defBody (inClass (top 49) 3)) (lS ⟨Γ.P, Γ.w, Γ.K, NM⟩ T_Conductor_as_book) :=
  (css_cons (cs_set (i := 1) nd_Conductor_as_book (ce_lst ca_nil))
    (css_cons (cs_for passes_cx0 rfl (ci_enum (fx_enumerate fx) (ce_attr .nil hr (ce_var (i := 0)) nmA_nd)) (cg_tup rfl (cgs_cons (cg_name (i := 2) nd_Conductor_as_book) (cgs_cons (cg_name (i := 3) nd_Conductor_as_book) cgs_nil))) (css_one (cs_for passes_cx0 rfl (ci_enum (fx_enumerate fx) (ce_var (i := 3))) (cg_tup rfl (cgs_cons (cg_name (i := 4) nd_Conductor_as_book) (cgs_cons (cg_tup rfl (cgs_cons (cg_name (i := 5) nd_Conductor_as_book) (cgs_cons (cg_name (i := 6) nd_Conductor_as_book) cgs_nil))) cgs_nil))) (css_one (cs_expr (ce_bm bm_append (ce_var (i := 1)) (ca_cons (ce_tup (ca_cons (ce_var (i := 2)) (ca_cons (ce_tup (ca_cons (ce_tup (ca_cons (ce_attr .nil hr (ce_var (i := 0)) nmA_nd) (ca_cons (ce_tup (ca_cons (ce_op cop_add (ce_var (i := 4)) ce_int) ca_nil)) ca_nil))) ca_nil)) (ca_cons (ce_var (i := 5)) (ca_cons (ce_var (i := 6)) ca_nil))))) ca_nil)))))))
    (css_one (cs_ret (ce_make (m_Book fx) hr (ca_cons (ce_attr .nil hr (ce_var (i := 0)) nmA_nd) (ca_cons (ce_callTy cc_tuple (fx_tuple fx) (ca_cons (ce_var (i := 1)) ca_nil)) ca_nil)))))))
def ps_Conductor_as_book : List Str := ["self"]
theorem len_Conductor_as_book : ∀ cs G R, sp_Conductor_as_book cs G R → cs.length = 1 := fun cs G R h => by
  unfold sp_Conductor_as_book at h
  try unfold spLenF at h
  split at h <;> first | rfl | exact h.elim
theorem ok_Conductor_as_book {Γ : Gam} (fx : Fx Γ) {f : Addr} {fd : FuncData} {dvs : List V} (F : FunD Γ.K d_Conductor_as_book.name d_Conductor_as_book.qual (defArgs d_Conductor_as_book.st) (defBody d_Conductor_as_book.st) (defScope d_Conductor_as_book.st) dvs [] f fd) : FnOk Γ.P Γ.w Γ.K Γ.mg Γ.base CX0 22 f fd ps_Conductor_as_book (lSp ⟨Γ.P, Γ.w, Γ.K, NM⟩ sp_Conductor_as_book) :=
  fn_ok3 (ar := 0) (T := T_Conductor_as_book) F (fs_ok (N := NL_Conductor_as_book) (by decide +kernel)) len_Conductor_as_book (fun cdv A outer s H E hr => b_Conductor_as_book fx hr) p_Conductor_as_book
theorem f_Conductor_as_book {Γ : Gam} (fx : Fx Γ) : MeN Γ NM c_Conductor "as_book" 22 sp_Conductor_as_book [] 1 := by
  obtain ⟨fd, F⟩ := fx.says.def_ 66 (d := d_Conductor_as_book) rfl
  exact ⟨_, He.meth_ok (x := "Conductor") (m := "as_book") (fx.says.fact 84 (f := .o (.meth "Conductor" "as_book")) rfl), ⟨fd, ps_Conductor_as_book, [], [], ok_Conductor_as_book fx F, rfl, fun _ => .nil, .nil, F.bindsN fun _ _ _ _ _ _ us hl => match us, hl with | [_], _ => rfl⟩⟩
def NL_applies : List Str := ["entry", "row", "bell", "places"]
theorem nd_applies : NL_applies.Nodup := by decide +kernel
theorem b_applies {Γ : Gam} (fx : Fx Γ) {f : Addr} {cdv : Value} {A : Around} {outer : List Env} {s : Shared} {H : Hp} {E : XK} (hr : Room (0) (A.deeper (envOfC "applies" (defScope (top 43)) s.heap.objs.size f cdv))) :
    PSs (cxOf CX0 Γ.P Γ.w Γ.K Γ.mg Γ.base NL_applies "applies" (defScope (top 43)) f cdv A outer s H E) (defBody (top 43)) (lS ⟨Γ.P, Γ.w, Γ.K, NM⟩ T_applies) :=
  (css_cons (cs_for passes_cx0 rfl (ci_val (ce_ix (cix hr.units) (ce_var (i := 0)) ce_int)) (cg_tup rfl (cgs_cons (cg_name (i := 2) nd_applies) (cgs_cons (cg_name (i := 3) nd_applies) cgs_nil))) (css_one (cs_if (ct_cmp (cop_notIn .nil hr.units) (ce_op cop_add (ce_bm bm_index (ce_var (i := 1)) (ca_cons (ce_var (i := 2)) ca_nil)) ce_int) (ce_var (i := 3))) (css_one (cs_ret ce_bl)) css_nil)))
    (css_one (cs_ret ce_bl)))
def ps_applies : List Str := ["entry", "row"]
theorem len_applies : ∀ cs G R, sp_applies cs G R → cs.length = 2 := fun cs G R h => by
  unfold sp_applies at h
  try unfold spLenF at h
  split at h <;> first | rfl | exact h.elim
theorem ok_applies {Γ : Gam} (fx : Fx Γ) {f : Addr} {fd : FuncData} {dvs : List V} (F : FunD Γ.K d_applies.name d_applies.qual (defArgs d_applies.st) (defBody d_applies.st) (defScope d_applies.st) dvs [] f fd) : FnOk Γ.P Γ.w Γ.K Γ.mg Γ.base CX0 1 f fd ps_applies (lSp ⟨Γ.P, Γ.w, Γ.K, NM⟩ sp_applies) :=
  fn_ok3 (ar := 0) (T := T_applies) F (fs_ok (N := NL_applies) (by decide +kernel)) len_applies (fun cdv A outer s H E hr => b_applies fx hr) p_applies
theorem f_applies {Γ : Gam} (fx : Fx Γ) : FnN Γ NM "applies" 1 sp_applies [] 2 := by
  obtain ⟨fd, F⟩ := fx.says.def_ 18 (d := d_applies) rfl
  exact ⟨_, He.glo_ok fx.kin fx.glob (fx.says.fact 19 (f := .o (.glo "applies")) rfl), F.kp, ⟨fd, ps_applies, [], [], ok_applies fx F, rfl, fun _ => .nil, .nil, F.bindsN fun _ _ _ _ _ _ us hl => match us, hl with | [_, _], _ => rfl⟩⟩
def NL_Book_ways_from : List Str := ["self", "standing", "found", "entry", "state", "row", "goal"]
theorem nd_Book_ways_from : NL_Book_ways_from.Nodup := by decide +kernel
theorem b_Book_ways_from {Γ : Gam} (fx : Fx Γ) {f : Addr} {cdv : Value} {A : Around} {outer : List Env} {s : Shared} {H : Hp} {E : XK} (hr : Room (3) (A.deeper (envOfC "Book.ways_from" (defScope (inClass (top 44) 3)) s.heap.objs.size f cdv))) :
    PSs (cxOf CX0 Γ.P Γ.w Γ.K Γ.mg Γ.base NL_Book_ways_from "Book.ways_from" (defScope (inClass (top 44) 3)) f cdv A outer s H E) (defBody (inClass (top 44) 3)) (lS ⟨Γ.P, Γ.w, Γ.K, NM⟩ T_Book_ways_from) :=
  (css_cons (cs_asg (wk := false) (ce_var (i := 1)) (cg_tup rfl (cgs_cons (cg_name (i := 4) nd_Book_ways_from) (cgs_cons (cg_name (i := 5) nd_Book_ways_from) cgs_nil))))
    (css_cons (cs_set (i := 2) nd_Book_ways_from (ce_newD (t := true)))
    (css_cons (cs_for passes_cx0 rfl (ci_val (ce_bm (bm_get hr.units) (ce_attr .nil hr (ce_var (i := 0)) nmA_nd) (ca_cons (ce_var (i := 4)) (ca_cons (ce_lst ca_nil) ca_nil)))) (cg_name (i := 3) nd_Book_ways_from) (css_one (cs_if (ct_truth (ce_call (f_applies fx) hr (ca_cons (ce_var (i := 3)) (ca_cons (ce_var (i := 5)) ca_nil)))) (css_cons (cs_set (i := 6) nd_Book_ways_from (ce_call (f_times fx) hr (ca_cons (ce_var (i := 5)) (ca_cons (ce_ix (cix hr.units) (ce_attr .nil hr (ce_attr .nil hr (ce_var (i := 0)) nmA_nd) nmA_nd) (ce_ix (cix hr.units) (ce_var (i := 3)) ce_int)) ca_nil))))
    (css_one (cs_if (ct_cmp (cop_eq hr.units) (ce_var (i := 6)) (ce_attr .nil hr (ce_attr .nil hr (ce_var (i := 0)) nmA_nd) nmA_nd)) (css_one (cs_asg (wk := false) ce_bl (cg_sub (ce_var (i := 2)) (ce_tup (ca_cons (ce_ix (cix hr.units) (ce_var (i := 3)) ce_int) (ca_cons (ce_tup (ca_cons (ce_cval (fx_Book_HOME fx)) (ca_cons (ce_var (i := 6)) ca_nil))) ca_nil))) (cset hr.units)))) (css_one (cs_asg (wk := false) ce_bl (cg_sub (ce_var (i := 2)) (ce_tup (ca_cons (ce_ix (cix hr.units) (ce_var (i := 3)) ce_int) (ca_cons (ce_tup (ca_cons (ce_ix (cix hr.units) (ce_var (i := 3)) ce_int) (ca_cons (ce_var (i := 6)) ca_nil))) ca_nil))) (cset hr.units))))))) css_nil)))
    (css_one (cs_ret (ce_callTy cc_tuple (fx_tuple fx) (ca_cons (ce_callB (cc_sorted rfl hr.units) (fx_sorted fx) (ca_cons (ce_callTy (cc_list rfl) (fx_list fx) (ca_cons (ce_var (i := 2)) ca_nil)) ca_nil)) ca_nil)))))))
def ps_Book_ways_from : List Str := ["self", "standing"]
theorem len_Book_ways_from : ∀ cs G R, sp_Book_ways_from cs G R → cs.length = 2 := fun cs G R h => by
  unfold sp_Book_ways_from at h
  try unfold spLenF at h
  split at h <;> first | rfl | exact h.elim
theorem ok_Book_ways_from {Γ : Gam} (fx : Fx Γ) {f : Addr} {fd : FuncData} {dvs : List V} (F : FunD Γ.K d_Book_ways_from.name d_Book_ways_from.qual (defArgs d_Book_ways_from.st) (defBody d_Book_ways_from.st) (defScope d_Book_ways_from.st) dvs [] f fd) : FnOk Γ.P Γ.w Γ.K Γ.mg Γ.base CX0 4 f fd ps_Book_ways_from (lSp ⟨Γ.P, Γ.w, Γ.K, NM⟩ sp_Book_ways_from) :=
  fn_ok3 (ar := 0) (T := T_Book_ways_from) F (fs_ok (N := NL_Book_ways_from) (by decide +kernel)) len_Book_ways_from (fun cdv A outer s H E hr => b_Book_ways_from fx hr) p_Book_ways_from
theorem f_Book_ways_from {Γ : Gam} (fx : Fx Γ) : MeN Γ NM c_Book "ways_from" 4 sp_Book_ways_from [] 2 := by
  obtain ⟨fd, F⟩ := fx.says.def_ 55 (d := d_Book_ways_from) rfl
  exact ⟨_, He.meth_ok (x := "Book") (m := "ways_from") (fx.says.fact 67 (f := .o (.meth "Book" "ways_from")) rfl), ⟨fd, ps_Book_ways_from, [], [], ok_Book_ways_from fx F, rfl, fun _ => .nil, .nil, F.bindsN fun _ _ _ _ _ _ us hl => match us, hl with | [_, _], _ => rfl⟩⟩
def NL_Book_fan : List Str := ["self", "row", "states", "found", "state", "letter", "goal", "there"]
theorem nd_Book_fan : NL_Book_fan.Nodup := by decide +kernel
theorem b_Book_fan {Γ : Gam} (fx : Fx Γ) {f : Addr} {cdv : Value} {A : Around} {outer : List Env} {s : Shared} {H : Hp} {E : XK} (hr : Room (6) (A.deeper (envOfC "Book.fan" (defScope (inClass (top 44) 6)) s.heap.objs.size f cdv))) :
    PSs (cxOf CX0 Γ.P Γ.w Γ.K Γ.mg Γ.base NL_Book_fan "Book.fan" (defScope (inClass (top 44) 6)) f cdv A outer s H E) (defBody (inClass (top 44) 6)) (lS ⟨Γ.P, Γ.w, Γ.K, NM⟩ T_Book_fan) :=
  (css_cons (cs_set (i := 3) nd_Book_fan (ce_newD (t := false)))
    (css_cons (cs_for passes_cx0 rfl (ci_val (ce_var (i := 2))) (cg_name (i := 4) nd_Book_fan) (css_one (cs_for passes_cx0 rfl (ci_val (ce_meth (.cons (f_Book_ways_from fx) .nil) hr (ce_var (i := 0)) (ca_cons (ce_tup (ca_cons (ce_var (i := 4)) (ca_cons (ce_var (i := 1)) ca_nil))) ca_nil))) (cg_tup rfl (cgs_cons (cg_name (i := 5) nd_Book_fan) (cgs_cons (cg_name (i := 6) nd_Book_fan) cgs_nil))) (css_cons (cs_set (i := 7) nd_Book_fan (ce_bm (bm_get hr.units) (ce_var (i := 3)) (ca_cons (ce_var (i := 5)) (ca_cons (ce_tup (ca_cons (ce_ix (cix hr.units) (ce_var (i := 6)) ce_int) (ca_cons (ce_tup ca_nil) ca_nil))) ca_nil))))
    (css_one (cs_if (ct_cmp (cop_notIn .nil hr.units) (ce_ix (cix hr.units) (ce_var (i := 6)) ce_int) (ce_ix (cix hr.units) (ce_var (i := 7)) ce_int)) (css_one (cs_asg (wk := false) (ce_tup (ca_cons (ce_ix (cix hr.units) (ce_var (i := 6)) ce_int) (ca_cons (ce_callTy cc_tuple (fx_tuple fx) (ca_cons (ce_callB (cc_sorted rfl hr.units) (fx_sorted fx) (ca_cons (ce_lst (ca_star (ce_ix (cix hr.units) (ce_var (i := 7)) ce_int) (ca_cons (ce_ix (cix hr.units) (ce_var (i := 6)) ce_int) ca_nil))) ca_nil)) ca_nil)) ca_nil))) (cg_sub (ce_var (i := 3)) (ce_var (i := 5)) (cset hr.units)))) css_nil))))))
    (css_one (cs_ret (ce_var (i := 3))))))
def ps_Book_fan : List Str := ["self", "row", "states"]
theorem len_Book_fan : ∀ cs G R, sp_Book_fan cs G R → cs.length = 3 := fun cs G R h => by
  unfold sp_Book_fan at h
  try unfold spLenF at h
  split at h <;> first | rfl | exact h.elim
theorem ok_Book_fan {Γ : Gam} (fx : Fx Γ) {f : Addr} {fd : FuncData} {dvs : List V} (F : FunD Γ.K d_Book_fan.name d_Book_fan.qual (defArgs d_Book_fan.st) (defBody d_Book_fan.st) (defScope d_Book_fan.st) dvs [] f fd) : FnOk Γ.P Γ.w Γ.K Γ.mg Γ.base CX0 7 f fd ps_Book_fan (lSp ⟨Γ.P, Γ.w, Γ.K, NM⟩ sp_Book_fan) :=
  fn_ok3 (ar := 0) (T := T_Book_fan) F (fs_ok (N := NL_Book_fan) (by decide +kernel)) len_Book_fan (fun cdv A outer s H E hr => b_Book_fan fx hr) p_Book_fan
theorem f_Book_fan {Γ : Gam} (fx : Fx Γ) : MeN Γ NM c_Book "fan" 7 sp_Book_fan [] 3 := by
  obtain ⟨fd, F⟩ := fx.says.def_ 57 (d := d_Book_fan) rfl
  exact ⟨_, He.meth_ok (x := "Book") (m := "fan") (fx.says.fact 69 (f := .o (.meth "Book" "fan")) rfl), ⟨fd, ps_Book_fan, [], [], ok_Book_fan fx F, rfl, fun _ => .nil, .nil, F.bindsN fun _ _ _ _ _ _ us hl => match us, hl with | [_, _, _], _ => rfl⟩⟩
def NL_Book_bears : List Str := ["self", "calling", "row", "states", "letter", "found"]
theorem nd_Book_bears : NL_Book_bears.Nodup := by decide +kernel
theorem b_Book_bears {Γ : Gam} (fx : Fx Γ) {f : Addr} {cdv : Value} {A : Around} {outer : List Env} {s : Shared} {H : Hp} {E : XK} (hr : Room (9) (A.deeper (envOfC "Book.bears" (defScope (inClass (top 44) 7)) s.heap.objs.size f cdv))) :
    PSs (cxOf CX0 Γ.P Γ.w Γ.K Γ.mg Γ.base NL_Book_bears "Book.bears" (defScope (inClass (top 44) 7)) f cdv A outer s H E) (defBody (inClass (top 44) 7)) (lS ⟨Γ.P, Γ.w, Γ.K, NM⟩ T_Book_bears) :=
  (css_cons (cs_expr (ce_call (f_check_calling fx) hr (ca_cons (ce_attr .nil hr (ce_var (i := 0)) nmA_nd) (ca_cons (ce_var (i := 1)) ca_nil))))
    (css_cons (cs_set (i := 2) nd_Book_bears (ce_attr .nil hr (ce_attr .nil hr (ce_var (i := 0)) nmA_nd) nmA_nd))
    (css_cons (cs_set (i := 3) nd_Book_bears (ce_tup (ca_cons ce_int ca_nil)))
    (css_cons (cs_for passes_cx0 rfl (ci_val (ce_var (i := 1))) (cg_name (i := 4) nd_Book_bears) (css_cons (cs_set (i := 5) nd_Book_bears (ce_meth (.cons (f_Book_fan fx) .nil) hr (ce_var (i := 0)) (ca_cons (ce_var (i := 2)) (ca_cons (ce_var (i := 3)) ca_nil))))
    (css_cons (cs_if (ct_cmp (cop_notIn .nil hr.units) (ce_var (i := 4)) (ce_var (i := 5))) (css_one (cs_ret ce_bl)) css_nil)
    (css_one (cs_asg (wk := false) (ce_ix (cix hr.units) (ce_var (i := 5)) (ce_var (i := 4))) (cg_tup rfl (cgs_cons (cg_name (i := 2) nd_Book_bears) (cgs_cons (cg_name (i := 3) nd_Book_bears) cgs_nil))))))))
    (css_one (cs_ret ce_bl))))))
def ps_Book_bears : List Str := ["self", "calling"]
theorem len_Book_bears : ∀ cs G R, sp_Book_bears cs G R → cs.length = 2 := fun cs G R h => by
  unfold sp_Book_bears at h
  try unfold spLenF at h
  split at h <;> first | rfl | exact h.elim
theorem ok_Book_bears {Γ : Gam} (fx : Fx Γ) {f : Addr} {fd : FuncData} {dvs : List V} (F : FunD Γ.K d_Book_bears.name d_Book_bears.qual (defArgs d_Book_bears.st) (defBody d_Book_bears.st) (defScope d_Book_bears.st) dvs [] f fd) : FnOk Γ.P Γ.w Γ.K Γ.mg Γ.base CX0 10 f fd ps_Book_bears (lSp ⟨Γ.P, Γ.w, Γ.K, NM⟩ sp_Book_bears) :=
  fn_ok3 (ar := 0) (T := T_Book_bears) F (fs_ok (N := NL_Book_bears) (by decide +kernel)) len_Book_bears (fun cdv A outer s H E hr => b_Book_bears fx hr) p_Book_bears
theorem f_Book_bears {Γ : Gam} (fx : Fx Γ) : MeN Γ NM c_Book "bears" 10 sp_Book_bears [] 2 := by
  obtain ⟨fd, F⟩ := fx.says.def_ 58 (d := d_Book_bears) rfl
  exact ⟨_, He.meth_ok (x := "Book") (m := "bears") (fx.says.fact 70 (f := .o (.meth "Book" "bears")) rfl), ⟨fd, ps_Book_bears, [], [], ok_Book_bears fx F, rfl, fun _ => .nil, .nil, F.bindsN fun _ _ _ _ _ _ us hl => match us, hl with | [_, _], _ => rfl⟩⟩
theorem it_Touch {Γ : Gam} (fx : Fx Γ) : IterN Γ NM c_Touch a_rows 1 := by
  obtain ⟨fd, F⟩ := fx.says.def_ 88 (d := d_Touch___iter__) rfl
  exact ⟨_, He.meth_ok (x := "Touch") (m := "__iter__") (fx.says.fact 125 (f := .o (.meth "Touch" "__iter__")) rfl), itRun_of (N := NM) (NL := ["self"]) (ps := ["self"]) F (fs_ok (by decide +kernel)) rfl (F.bindsN fun _ _ _ _ _ _ us hl => match us, hl with | [_], _ => rfl)
    fun cdv A outer s H E hr => pss_one (ps_ret (pe_iter (fx_iter fx) (ce_attr .nil hr (ce_var (i := 0)) nmA_nd)))⟩
def NL_law : List Str := ["_law_script", "_law_draw_here", "_law_world_here", "_law_stage", "_law_table_here", "_law_bell", "_law_start", "_law_method", "_law_handed", "_law_conductor", "_law_other", "_law_due", "_law_calling", "_law_there", "_law_home", "_law_book", "_law_row_here"]
theorem nd_law : NL_law.Nodup := by decide +kernel
theorem b_law {Γ : Gam} (fx : Fx Γ) {f : Addr} {cdv : Value} {A : Around} {outer : List Env} {s : Shared} {H : Hp} {E : XK} (hr : Room (24) (A.deeper (envOfC "law" (defScope (top 89)) s.heap.objs.size f cdv))) :
    PSs (cxOf CX0 Γ.P Γ.w Γ.K Γ.mg Γ.base NL_law "law" (defScope (top 89)) f cdv A outer s H E) (defBody (top 89)) (lS ⟨Γ.P, Γ.w, Γ.K, NM⟩ T_law) :=
  (css_cons (cs_set (i := 1) nd_law (ce_call (f__law_draw fx) hr (ca_cons (ce_var (i := 0)) ca_nil)))
    (css_cons (cs_set (i := 2) nd_law (ce_call (f__law_world fx) hr (ca_cons (ce_var (i := 1)) (ca_cons ce_int ca_nil))))
    (css_cons (cs_set (i := 3) nd_law (ce_ix (cix hr.units) (ce_var (i := 2)) ce_int))
    (css_cons (cs_set (i := 4) nd_law (ce_call (f__law_table fx) hr (ca_cons (ce_var (i := 1)) (ca_cons (ce_var (i := 3)) (ca_cons (ce_call (f__law_letters fx) hr (ca_cons (ce_var (i := 2)) ca_nil)) ca_nil)))))
    (css_cons (cs_set (i := 5) nd_law (ce_op cop_add ce_int (ce_call (f__law_pick fx) hr (ca_cons (ce_var (i := 1)) (ca_cons (ce_var (i := 3)) ca_nil)))))
    (css_cons (cs_set (i := 6) nd_law (ce_call (f__law_row fx) hr (ca_cons (ce_var (i := 1)) (ca_cons (ce_var (i := 3)) ca_nil))))
    (css_cons (cs_set (i := 7) nd_law (ce_make (m_Method fx) hr (ca_cons (ce_var (i := 3)) (ca_cons (ce_ix (cix hr.units) (ce_var (i := 2)) ce_int) (ca_cons (ce_ix (cix hr.units) (ce_var (i := 2)) ce_int) ca_nil)))))
    (css_cons (cs_set (i := 8) nd_law (ce_call (f__law_listed fx) hr (ca_cons (ce_var (i := 4)) ca_nil)))
    (css_cons (cs_set (i := 9) nd_law (ce_make (m_Conductor fx) hr (ca_cons (ce_var (i := 7)) (ca_cons (ce_var (i := 5)) (ca_cons (ce_var (i := 8)) ca_nil)))))
    (css_cons (cs_set (i := 10) nd_law (ce_make (m_Conductor fx) hr (ca_cons (ce_var (i := 7)) (ca_cons (ce_call (f_place fx) hr (ca_cons (ce_var (i := 6)) (ca_cons (ce_var (i := 5)) ca_nil))) (ca_cons (ce_var (i := 4)) ca_nil)))))
    (css_cons (cs_set (i := 11) nd_law (ce_call (f__law_walk fx) hr (ca_cons (ce_call (f__law_moves fx) hr (ca_cons (ce_var (i := 2)) ca_nil)) (ca_cons (ce_var (i := 4)) (ca_cons (ce_call (f_place fx) hr (ca_cons (ce_var (i := 6)) (ca_cons (ce_var (i := 5)) ca_nil))) (ca_cons (ce_call (f__law_rounds fx) hr (ca_cons (ce_var (i := 3)) ca_nil)) ca_nil))))))
    (css_cons (cs_if (PW.pt (cw_or (ct_cmp (cop_ne hr.units) (ce_meth (.cons (f_Conductor_outcome fx) .nil) hr (ce_var (i := 9)) (ca_cons (ce_callTy (cc_list rfl) (fx_list fx) (ca_cons (ce_var (i := 6)) ca_nil)) ca_nil)) (ce_var (i := 11))) (cw_one_or (ct_cmp (cop_ne hr.units) (ce_meth0 (.cons (f_Conductor_outcome_1 fx) .nil) hr (ce_var (i := 10))) (ce_var (i := 11)))))) (css_one (cs_ret ce_bl)) css_nil)
    (css_cons (cs_if (ct_cmp (cop_ne hr.units) (ce_call (f__law_walk fx) hr (ca_cons (ce_call (f__law_moves fx) hr (ca_cons (ce_var (i := 2)) ca_nil)) (ca_cons (ce_var (i := 4)) (ca_cons (ce_var (i := 5)) (ca_cons (ce_var (i := 6)) ca_nil))))) (ce_var (i := 11))) (css_one (cs_ret ce_bl)) css_nil)
    (css_cons (cs_if (PW.pt (cw_or (ct_cmp (cop_ne hr.units) (ce_var (i := 8)) (ce_call (f__law_listed fx) hr (ca_cons (ce_var (i := 4)) ca_nil))) (cw_one_or (ct_cmp (cop_ne hr.units) (ce_attr .nil hr (ce_var (i := 9)) nmA_nd) (ce_var (i := 4)))))) (css_one (cs_ret ce_bl)) css_nil)
    (css_cons (cs_set (i := 12) nd_law (ce_bm bm_join ce_str (ca_cons (ce_callTy (cc_list rfl) (fx_list fx) (ca_cons (ce_slice csl (ce_var (i := 11)) (co_some ce_int) co_none) ca_nil)) ca_nil)))
    (css_cons (cs_set (i := 13) nd_law (ce_make (m_Touch fx) hr (ca_cons (ce_var (i := 7)) (ca_cons (ce_var (i := 12)) (ca_cons (ce_var (i := 6)) ca_nil)))))
    (css_cons (cs_set (i := 14) nd_law (ce_make (m_Touch_3 fx) hr (ca_cons (ce_var (i := 7)) (ca_cons (ce_var (i := 12)) ca_nil))))
    (css_cons (cs_if (PW.pt (cw_or (ct_cmp (cop_ne hr.units) (ce_attr (.cons (f_Touch_is_round fx) .nil) hr (ce_var (i := 13)) nmA_nd) (ce_attr (.cons (f_Touch_is_round fx) .nil) hr (ce_var (i := 14)) nmA_nd)) (cw_or (ct_cmp (cop_ne hr.units) (ce_attr (.cons (f_Touch_spots fx) .nil) hr (ce_var (i := 13)) nmA_nd) (ce_attr (.cons (f_Touch_spots fx) .nil) hr (ce_var (i := 14)) nmA_nd)) (cw_one_or (ct_cmp (cop_ne hr.units) (ce_attr (.cons (f_Touch_is_true fx) .nil) hr (ce_var (i := 13)) nmA_nd) (ce_attr (.cons (f_Touch_is_true fx) .nil) hr (ce_var (i := 14)) nmA_nd)))))) (css_one (cs_ret ce_bl)) css_nil)
    (css_cons (cs_if (ct_cmp (cop_ne hr.units) (ce_callTy (cc_listO (kk := 1) rfl (.cons (it_Touch fx) .nil) (.cons (f_Touch___len__ fx) .nil) hr) (fx_list fx) (ca_cons (ce_var (i := 13)) ca_nil)) (ce_lc (own := [("_law_row_here", 16)]) rfl nd_law (ci_own (kk := 1) (.cons (it_Touch fx) .nil) hr (ce_var (i := 14))) (blk_ok (N := NL_law) (sc := defScope (top 89)) (own := [("_law_row_here", 16)]) (by decide +kernel)) (by decide) (fun _ _ _ _ _ => (cg_name (i := 16) nd_law)) (fun _ _ _ _ _ => cts_nil) (fun _ _ _ _ _ => (ce_call (f_renamed fx) hr (ca_cons (ce_var (i := 16)) (ca_cons (ce_var (i := 6)) ca_nil)))))) (css_one (cs_ret ce_bl)) css_nil)
    (css_cons (cs_if (PW.pt (cw_or (ct_cmp (cop_ne hr.units) (ce_attr (.cons (f_Touch_end fx) .nil) hr (ce_var (i := 13)) nmA_nd) (ce_call (f_renamed fx) hr (ca_cons (ce_attr (.cons (f_Touch_end fx) .nil) hr (ce_var (i := 14)) nmA_nd) (ca_cons (ce_var (i := 6)) ca_nil)))) (cw_one_or (ct_cmp (cop_ne hr.units) (ce_cmp (cop_eq hr.units) (ce_ix (cix hr.units) (ce_var (i := 11)) ce_int) ce_str) (ce_attr (.cons (f_Touch_is_round fx) .nil) hr (ce_var (i := 14)) nmA_nd))))) (css_one (cs_ret ce_bl)) css_nil)
    (css_cons (cs_set (i := 15) nd_law (ce_meth0 (.cons (f_Conductor_as_book fx) .nil) hr (ce_var (i := 10))))
    (css_one (cs_ret (ce_and (ce_meth (.cons (f_Book_bears fx) .nil) hr (ce_var (i := 15)) (ca_cons (ce_var (i := 12)) ca_nil)) (ce_one (ce_cmp (cop_eq hr.units) (ce_meth (.cons (f_Conductor_outcome fx) .nil) hr (ce_var (i := 10)) (ca_cons (ce_call (f__law_rounds fx) hr (ca_cons (ce_var (i := 3)) ca_nil)) ca_nil)) (ce_var (i := 11))))))))))))))))))))))))))))
def ps_law : List Str := ["_law_script"]
theorem len_law : ∀ cs G R, sp_law cs G R → cs.length = 1 := fun cs G R h => by
  unfold sp_law at h
  split at h <;> first | rfl | exact h.elim
theorem ok_law {Γ : Gam} (fx : Fx Γ) {f : Addr} {fd : FuncData} {dvs : List V} (F : FunD Γ.K d_law.name d_law.qual (defArgs d_law.st) (defBody d_law.st) (defScope d_law.st) dvs [] f fd) : FnOk Γ.P Γ.w Γ.K Γ.mg Γ.base CX0 25 f fd ps_law (lSp ⟨Γ.P, Γ.w, Γ.K, NM⟩ sp_law) :=
  fn_ok3 (ar := 0) (T := T_law) F (fs_ok (N := NL_law) (by decide +kernel)) len_law (fun cdv A outer s H E hr => b_law fx hr) p_law
theorem walk_ofX {l : PySem.W.OpenLaw} {n k : Nat} {q : Program} {loose : List Str} {XP : (Str → Option Value) → Heap → Prop} {YP : World → Heap → Prop} {d : DefRec} {x : Str}
    (hn : l.most = some n) (hn2 : n ≤ sizeLine) (hdf : d.params.defaults = []) (hr : Room k callerA)
    (F : ∀ (w : World) (mg : Str → Option Value) (fa : Addr) (h : Heap), YP w h → h.Ns mainGlobals mg → mg d.name = some (.ref fa) →
      ∃ (K : PySem.W.Frag) (fd : FuncData) (sp : Sp), K.In h ∧ (∀ (s : Shared) (u : Value), BindsTo s fd ⟨[u], []⟩ [(x, u)]) ∧
        (∀ (H : Hp) (a : Addr) (ns : List Int), ns.length ≤ n → (∀ z ∈ ns, Builtin.Int.intBits z ≤ 1048576) → Only H → SqL K H a (ns.map V.int) → sp [.ref a] H (fun v _ => v = .bl true) fun _ _ _ => False) ∧
        ∀ base : Heap, K.In base → base.Ns mainGlobals mg → FnOk l.prog w K mg base CX0 k fa fd [x] sp) :
    PySem.W.WalkO q loose XP YP l.row.toRowW d [] (fun f vs => PySem.call f vs) := by
  refine Att.attach_callB hn hdf fun w s0 s1 mg mb fa ob pm cd doc a vs ns G Y hob hdat hcode hglob hlst hnum hlen hbits hgen => ?_
  obtain ⟨K, fd, sp, inK, bd, spr, fok⟩ := F w mg fa _ Y G.T.g hglob
  exact law_call inK G.T.g G.T.b G.T.builtins G.T.nolimit hgen hlst hnum (Nat.le_trans hlen hn2) hr fok bd
    (fun H only seq => spr H a ns hlen hbits only seq) fun H e s' z => z.elim
theorem scr_ok {ns : List Int} (hl : ns.length ≤ 63) (hb : ∀ z ∈ ns, Builtin.Int.intBits z ≤ 1048576) : ScrOk ns := by
  refine ⟨hl, fun i hi => ?_⟩
  have h1 := hb i hi
  unfold smallI
  rw [show (2 : Nat) ^ 20 = 1048576 from by decide]
  unfold Builtin.Int.intBits at h1
  split at h1
  · rename_i e
    have : i = 0 := by simpa using e
    subst this
    exact Nat.two_pow_pos _
  · exact Nat.lt_of_lt_of_le Nat.lt_log2_self (Nat.pow_le_pow_right (by decide) h1)
theorem facts {P : Program} {w : World} {K : PySem.W.Frag} {h : Heap} {mg : Str → Option Value} {f : Addr} (X : K.In h) (G : h.Ns mainGlobals mg) (hfa : mg ("law" : Str) = some (.ref f)) (c : Says fa fn K) :
    ∃ fd : FuncData, (∀ (s : Shared) (v : Value), BindsTo s fd ⟨[v], []⟩ [("_law_script", v)]) ∧ ∀ base : Heap, K.In base → base.Ns mainGlobals mg → FnOk P w K mg base CX0 25 f fd ["_law_script"] (lSp ⟨P, w, K, NM⟩ sp_law) := by
  obtain ⟨fd, F⟩ := c.def_ 53 (d := d_law) rfl
  have e := hfa.symm.trans (He.glo_ok X G (c.fact 54 (f := .o (.glo "law")) rfl))
  cases e
  have b := FunD.bindsA (ps := ["_law_script"]) F fun _ _ _ _ _ _ us hl => match us, hl with | [_], _ => rfl
  exact ⟨fd, fun s v => b s [v] rfl, fun base hK hG => ok_law (Γ := ⟨P, w, K, mg, base⟩) ⟨hK, hG, c⟩ F⟩
/-- the law's promise holds of the script -/
theorem law_sp {P : Program} {w : World} {K : PySem.W.Frag} (nl : NoList K) {H : Hp} {a : Addr} {ns : List Int} (hl : ns.length ≤ 63) (hb : ∀ z ∈ ns, Builtin.Int.intBits z ≤ 1048576) (hS : SqL K H a (ns.map V.int)) :
    lSp ⟨P, w, K, NM⟩ sp_law [.ref a] H (fun v _ => v = .bl true) fun _ _ _ => False := by
  have key : ∀ co : CO, (co = .lst (ns.map CV.int) ∨ co = .rls (ns.map CV.int)) → RepO ⟨P, w, K, NM⟩ H a co → lSp ⟨P, w, K, NM⟩ sp_law [.ref a] H (fun v _ => v = .bl true) fun _ _ _ => False := by
    intro co hco ro
    refine ⟨[.a (.ref a)], fun b => if b = a then some co else none, fun v _ => v = .a (.bl true), .cons (.a _) .nil, fun p u e => ?_, ⟨ns, ?_, scr_ok hl hb, fun _ => rfl⟩, fun v c H' G' e r _ _ => ?_⟩
    · by_cases z : p = a
      · subst z
        have e2 : (if p = p then some co else none) = some u := e
        rw [if_pos rfl] at e2
        cases e2
        exact ro
      · have e2 : (if p = a then some co else none) = some u := e
        rw [if_neg z] at e2
        cases e2
    · have e0 : (fun b => if b = a then some co else none : CH) a = some co := if_pos rfl
      unfold CH.seq
      rw [e0]
      rcases hco with rfl | rfl <;> rfl
    · have e2 : c = .a (.bl true) := e
      subst e2
      exact r.at_a
  have ra : Reps K H (ns.map V.int) (ns.map CV.int) := by rw [← map_atoms]; exact .atoms _
  rcases hS with (h | ⟨o, h⟩) | ⟨o, its, m, h1, h2, _⟩
  · exact key (.lst _) (.inl rfl) ⟨_, h, ra⟩
  · exact key (.rls _) (.inr rfl) ⟨_, o, h, ra⟩
  · exact absurd h2 (nl a o h1)
end C3
open PySem PySem.W PySem.Calls PyProof.Rows
theorem PySem.Challenge.cw_truetouch_k84_whole_renamed_starts_holds : PySem.Challenge.rw_truetouch_k84_whole_renamed_starts.Holds := by
  w_on; o_law
  refine HandSHeadRun.head_any (r := OpenLaw.row PySem.Challenge.rw_truetouch_k84_whole_renamed_starts)
    (q := view (OpenLaw.row PySem.Challenge.rw_truetouch_k84_whole_renamed_starts).prog [89]) (H := C3.hk) (ob := C3.ob) (M := 60000) (loose := C3.nm)
    (d := HandSHeadRun.topDef (OpenLaw.row PySem.Challenge.rw_truetouch_k84_whole_renamed_starts).prog 89) (kwd := []) C3.ob_eq
    (by kernel_rfl) (fun s => by kernel_rfl) C3.run (by kernel_rfl) (by kernel_rfl) (by kernel_rfl) (by rfl)
    (by first | assumption | decide +kernel) (by decide +kernel) ⟨rfl, rfl, rfl, rfl, rfl, by decide +kernel⟩ ?hw ?hc
  case hw => w_witness2
  case hc =>
    refine C3.walk_ofX (l := PySem.Challenge.rw_truetouch_k84_whole_renamed_starts) (n := 63) (k := 25) (x := "_law_script")
      rfl (by decide) (by kernel_rfl) ⟨rfl, by decide, by decide⟩ ?F
    intro w mg fa h Y G glob
    obtain ⟨K, inK, c, nl⟩ := Y
    have named : mg ("law" : PySem.Str) = some (.ref fa) := by
      have e : (HandSHeadRun.topDef (OpenLaw.row PySem.Challenge.rw_truetouch_k84_whole_renamed_starts).prog 89).name = ("law" : PySem.Str) := by kernel_rfl
      rw [← e]
      exact glob
    obtain ⟨fd, bd, fok⟩ := C3.facts (P := (PySem.Challenge.rw_truetouch_k84_whole_renamed_starts).prog) (w := w) inK G named c
    exact ⟨K, fd, _, inK, bd, fun H a ns hl hb _ hS => C3.law_sp nl hl hb hS, fok⟩
