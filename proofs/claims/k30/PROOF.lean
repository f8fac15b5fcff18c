import PyProof.Rows.All
import Wide.All
import OpenK.AllK
import Wide.FinOn
import HandS.ForMost
import HandS.ForExc
import KE.DataEq
import KE.KDictKeyed
import KE.KeyNested
import HandS.Lambda
import HandS.Style
import HandS.TupAny
import HandS.TupMul
import HandS.IsInst
import HandS.Zip
import HandS.SortInts
import HandS.Defaults
import HandS.ExcCtx
import HandS.HotCalls
import HandS.ExcInitHot
import PyProof.CollectIter
import HandS.Conv
import HandS.DictComp
import HandS.Strs
import HandS.SetFor
import HandS.SetBool
import HandS.Set
import KE.KStateDown
import HandS.Head0
import HandS.Head1
import HandS.Head2
import HandS.HeadEnd
import HandS.HeadHook1
import HandS.HeadHook2
import KE.GoesEnum
import PyProof.SeqIndex
import HandS.ExcIs
import HandS.ExcField
import HandS.TryMany
import KE.KExcIs
import HandS.HeadHook4
import KE.DataFind
import HandS.TupSets
import HandS.SortRule
import KE.KDictWalk
import HandS.Nested
import HandS.TryOnly
import HandS.EndTab
import HandS.MakeKwOnly
import HandS.Text
import HandS.FStr
import HandS.Steps
import HandS.CallSlots
import KE.LtData
import KE.KFmtOwn
import HandS.Codes
import PyProof.SliceSyntax
import PySem.Challenge.RW_mindsteps_k30_whole_texts
set_option Elab.async false
set_option linter.all false
section
set_option maxRecDepth 100000
set_option autoImplicit false
namespace Mi
open PySem PySem.Spec L2

/-! ### what the reader computes with -/
abbrev D := PyData
inductive Val where
  | d (x : D)
  | r (i : Nat)
  | s (ns : List Int)
  | a (p : Addr) (d : Option Addr)
  | c (j : Nat) (x : Val)
  | f (j : Nat)
inductive MO where
  | lst (xs : List D)
  | dK (ps : List (Int × D))
  | dN (ps : List (D × D))
  | dL (ps : List (D × D))
  | ins (c : Nat) (fs : List (Str × Val))
  | gone
abbrev Sto := List MO
structure Exn where
  cls : Nat
  arg : Option D
inductive R (α : Type) where
  | ok (a : α) (s : Sto)
  | exc (e : Exn) (s : Sto)
  | bad
def R.bind {α β : Type} (x : R α) (f : α → Sto → R β) : R β := match x with
  | .ok a s => f a s
  | .exc e s => .exc e s
  | .bad => .bad
@[simp] theorem R.bind_ok {α β : Type} (a : α) (s : Sto) (f : α → Sto → R β) : (R.ok a s).bind f = f a s := rfl
@[simp] theorem R.bind_exc {α β : Type} (e : Exn) (s : Sto) (f : α → Sto → R β) : (R.exc e s : R α).bind f = .exc e s := rfl
@[simp] theorem R.bind_bad {α β : Type} (f : α → Sto → R β) : (R.bad : R α).bind f = .bad := rfl
abbrev Ev := List (Option Val)
abbrev EE := Ev → Sto → R Val
abbrev ET := Ev → Sto → R Bool
abbrev EA := Ev → Sto → R (List Val)
inductive Fl where
  | nx (env : Ev)
  | rt (v : Val)
  | bk (env : Ev)
  | ct (env : Ev)
  | ex (e : Exn) (env : Ev)
abbrev ES := Ev → Sto → R Fl
/-- an expression within a statement -/
def R.bindS {α : Type} (x : R α) (env : Ev) (f : α → Sto → R Fl) : R Fl := match x with
  | .ok a s => f a s
  | .exc e s => .ok (.ex e env) s
  | .bad => .bad

/-! ### how it stands in the heap -/
structure RC where
  K : PySem.W.Frag
  w : World
  cls : Nat → Addr
/-- the key that a datum is -/
def nk : D → Option NestedKey
  | .none => some .none
  | .int i => some (.num i)
  | .str x => some (.text x)
  | .tuple xs => (nks xs).map .tup
  | _ => none
where nks : List D → Option (List NestedKey)
  | [] => some []
  | x :: xs => match nk x, nks xs with
    | some k, some ks => some (k :: ks)
    | _, _ => none
/-- a dict of int keys -/
def kz (ps : List (Int × D)) (vs : List V) : List (Key × V) := List.zipWith (fun p v => ((Sum.inl p.1 : Key), v)) ps vs
/-- a dict of nested keys, by its entries -/
def DictN (w : World) (a : Addr) (xs : List (NestedKey × Addr × Value)) : HO := .ext fun h => ∃ o es ep, h.get? a = some o ∧ o.ExactDict ∧ o.data = .dict es ep ∧ es.toList = xs.map (fun x => (⟨x.1.hash w, .ref x.2.1, x.2.2⟩ : DictEntry)) ∧ (xs.map (·.1)).Nodup
mutual
inductive Rep (C : RC) (G : Hp) : V → D → Prop
  | non : Rep C G .non .none
  | bl (b : Bool) : Rep C G (.bl b) (.bool b)
  | int (i : Int) : Rep C G (.int i) (.int i)
  | str (x : Str) : Rep C G (.str x) (.str x)
  | lst {a : Addr} {xs : List V} {ds : List D} : G a = some (.lst xs) → RepAll C G xs ds → Rep C G (.ref a) (.list ds)
  | tup {a : Addr} {xs : List V} {ds : List D} : SqT C.K G a xs → RepAll C G xs ds → Rep C G (.ref a) (.tuple ds)
  | dK {a : Addr} {o : Obj} {ps : List (Int × D)} {vs : List V} {ds : List D} : G a = some (.frz o (.dK (kz ps vs))) → ps.map (·.2) = ds → RepAll C G vs ds → Rep C G (.ref a) (.dict (ps.map fun p => (.int p.1, p.2)))
  | dN {a : Addr} {o : Obj} {ps : List (D × D)} {xs : List (NestedKey × Addr × Value)} : G a = some (.frz o (.frz o (DictN C.w a xs))) → (a == sysModules) = false → RepN C G ps xs → Rep C G (.ref a) (.dict ((.none, .none) :: ps))
inductive RepN (C : RC) (G : Hp) : List (D × D) → List (NestedKey × Addr × Value) → Prop
  | nil : RepN C G [] []
  | cons {p : D × D} {ps : List (D × D)} {k : NestedKey} {b : Addr} {v : V} {u : Value} {xs : List (NestedKey × Addr × Value)} : nk p.1 = some k → k.depth ≤ 8 → Rep C G (.ref b) p.1 → RelV v u → Rep C G v p.2 → RepN C G ps xs → RepN C G (p :: ps) ((k, b, u) :: xs)
inductive RepAll (C : RC) (G : Hp) : List V → List D → Prop
  | nil : RepAll C G [] []
  | cons {v : V} {vs : List V} {d : D} {ds : List D} : Rep C G v d → RepAll C G vs ds → RepAll C G (v :: vs) (d :: ds)
end
def Sub (G G' : Hp) : Prop := ∀ a o, G a = some o → G' a = some o
theorem Sub.refl (G : Hp) : Sub G G := fun _ _ h => h
theorem Sub.trans {A B E : Hp} (a : Sub A B) (b : Sub B E) : Sub A E := fun c o h => b c o (a c o h)
theorem Rd.sub {G G' : Hp} (s : Sub G G') {a : Addr} {u : HO} (h : Rd G a u) : Rd G' a u := by
  rcases h with h | ⟨o, h⟩
  · exact .inl (s _ _ h)
  · exact .inr ⟨o, s _ _ h⟩
theorem SqL.sub {K : PySem.W.Frag} {G G' : Hp} (s : Sub G G') {a : Addr} {xs : List V} (h : SqL K G a xs) : SqL K G' a xs := by
  rcases h with h | h
  · exact .inl (Rd.sub s h)
  · exact .inr h
theorem SqT.sub {K : PySem.W.Frag} {G G' : Hp} (s : Sub G G') {a : Addr} {xs : List V} (h : SqT K G a xs) : SqT K G' a xs := by
  rcases h with h | h
  · exact .inl (Rd.sub s h)
  · exact .inr h
mutual
theorem Rep.sub {C : RC} {G G' : Hp} (s : Sub G G') {d : D} {v : V} (h : Rep C G v d) : Rep C G' v d := match h with
  | .non => .non
  | .bl b => .bl b
  | .int b => .int b
  | .str b => .str b
  | .lst q r => .lst (s _ _ q) (RepAll.sub s r)
  | .tup q r => .tup (SqT.sub s q) (RepAll.sub s r)
  | .dK q e r => .dK (s _ _ q) e (RepAll.sub s r)
  | .dN q e r => .dN (s _ _ q) e (RepN.sub s r)
theorem RepN.sub {C : RC} {G G' : Hp} (s : Sub G G') {ps : List (D × D)} {xs : List (NestedKey × Addr × Value)} (h : RepN C G ps xs) : RepN C G' ps xs := match h with
  | .nil => .nil
  | .cons a b c d e r => .cons a b (Rep.sub s c) d (Rep.sub s e) (RepN.sub s r)
theorem RepAll.sub {C : RC} {G G' : Hp} (s : Sub G G') {ds : List D} {vs : List V} (h : RepAll C G vs ds) : RepAll C G' vs ds := match h with
  | .nil => .nil
  | .cons q r => .cons (Rep.sub s q) (RepAll.sub s r)
end
theorem RepAll.length {C : RC} {G : Hp} : ∀ {ds : List D} {vs : List V}, RepAll C G vs ds → vs.length = ds.length
  | [], _, h => by cases h; rfl
  | _ :: _, _, h => by
    cases h with
    | cons q r => simp [RepAll.length r]
theorem RepAll.get {C : RC} {G : Hp} : ∀ {ds : List D} {vs : List V} {i : Nat} {d : D}, RepAll C G vs ds → ds[i]? = some d → ∃ v, vs[i]? = some v ∧ Rep C G v d
  | [], _, _, _, h, e => by simp at e
  | _ :: _, _, 0, _, h, e => by
    cases h with
    | cons q r => simp at e; subst e; exact ⟨_, rfl, q⟩
  | _ :: _, _, i + 1, _, h, e => by
    cases h with
    | cons q r => simpa using RepAll.get r (by simpa using e)
theorem RepAll.append {C : RC} {G : Hp} : ∀ {ds es : List D} {vs us : List V}, RepAll C G vs ds → RepAll C G us es → RepAll C G (vs ++ us) (ds ++ es)
  | [], _, _, _, h, k => by cases h; exact k
  | _ :: _, _, _, _, h, k => by
    cases h with
    | cons q r => exact .cons q (RepAll.append r k)
theorem RepAll.take {C : RC} {G : Hp} : ∀ (n : Nat) {ds : List D} {vs : List V}, RepAll C G vs ds → RepAll C G (vs.take n) (ds.take n)
  | 0, _, _, h => by simpa using RepAll.nil
  | n + 1, [], _, h => by cases h; exact .nil
  | n + 1, _ :: _, _, h => by
    cases h with
    | cons q r => exact .cons q (RepAll.take n r)
theorem RepAll.drop {C : RC} {G : Hp} : ∀ (n : Nat) {ds : List D} {vs : List V}, RepAll C G vs ds → RepAll C G (vs.drop n) (ds.drop n)
  | 0, _, _, h => h
  | n + 1, [], _, h => by cases h; exact .nil
  | n + 1, _ :: _, _, h => by
    cases h with
    | cons q r => exact RepAll.drop n r
theorem RepAll.set {C : RC} {G : Hp} {d : D} {v : V} (k : Rep C G v d) : ∀ (n : Nat) {ds : List D} {vs : List V}, RepAll C G vs ds → RepAll C G (vs.set n v) (ds.set n d)
  | _, [], _, h => by cases h; exact .nil
  | 0, _ :: _, _, h => by
    cases h with
    | cons q r => exact .cons k r
  | n + 1, _ :: _, _, h => by
    cases h with
    | cons q r => exact .cons q (RepAll.set k n r)
mutual
theorem Rep.dp {C : RC} {G H : Hp} (s : Sub G H) : ∀ {d : D} {v : V}, d.plain = true → Rep C G v d → Dp C.K H v d
  | .none, _, _, h => by cases h; exact .non
  | .bool b, _, _, h => by cases h; exact .bl _
  | .int b, _, _, h => by cases h; exact .int _
  | .str b, _, _, h => by cases h; exact .str _
  | .list ds, _, p, h => by
    cases h with
    | lst q r => exact .lst (SqL.of (s _ _ q)) (RepAll.dp s p r)
  | .tuple ds, _, p, h => by
    cases h with
    | tup q r => exact .tup (SqT.sub s q) (RepAll.dp s p r)
  | .dict _, _, p, h => by cases p
theorem RepAll.dp {C : RC} {G H : Hp} (s : Sub G H) : ∀ {ds : List D} {vs : List V}, PyData.plainAll ds = true → RepAll C G vs ds → DpAll C.K H vs ds
  | [], _, _, h => by cases h; exact .nil
  | _ :: _, _, p, h => by
    cases h with
    | cons q r => exact .cons (Rep.dp s (Bool.and_eq_true_iff.mp p).1 q) (RepAll.dp s (Bool.and_eq_true_iff.mp p).2 r)
end
/-! ### lambdas: which there are, their tables -/
structure Lam where
  params : Arguments
  body : Expr
  scope : Scope
def lamOf : Expr → Option Lam
  | .Lambda a b s _ => some ⟨a, b, s⟩
  | _ => none
def lamsC : Expr → List Lam
  | .Call _ as _ _ => as.filterMap lamOf
  | .UnaryOp _ (.Call _ as _ _) _ => as.filterMap lamOf
  | _ => []
def lamsS : Stmt → List Lam
  | .If t _ _ _ => lamsC t
  | .Return (some e) _ => lamsC e
  | _ => []
/-- by number: 0 and 1 is_good's, 2 plan's, 3 broken's -/
def lamAt : Nat → List Stmt → Option Lam
  | 1, b => (b.flatMap lamsS)[1]?
  | _, b => (b.flatMap lamsS)[0]?
def lamT : Nat → Nat
  | 0 => 0
  | 1 => 0
  | 2 => 1
  | _ => 2
def tabQ : Nat → Str
  | 0 => "is_good.<locals>.<lambda>"
  | 1 => "plan.<locals>.<lambda>"
  | _ => "broken.<locals>.<lambda>"
def lamV : Nat → Str
  | 0 => "found"
  | 1 => "found"
  | 2 => "goal"
  | _ => "saying"
/-- the object of the lambda j, its cell at cc, its code at code -/
def LamO (C : RC) (j : Nat) (of : Obj) (cc code : Addr) : Prop := ∃ (o : Obj) (fd : FuncData) (b : List Stmt) (L : Lam) (pm ctv : Value), C.K.lookup (C.cls (110 + j)) = some o ∧ o.data = .func fd ∧ fd.body = .stmts b ∧ lamAt j b = some L ∧ of = PySem.W.kla_obj "<lambda>" (tabQ (lamT j)) L.params L.body L.scope [(lamV j, cc)] pm code ctv
def CloG (C : RC) (G : Hp) (f : Addr) (j : Nat) (v : V) : Prop := ∃ (of oc : Obj) (cc code : Addr) (u : Value), G f = some (.frz of (.own 0)) ∧ G cc = some (.frz oc (.own 0)) ∧ oc.data = .cell (some u) ∧ RelV v u ∧ G code = some (LamX.CodeO code (tabQ (lamT j))) ∧ LamO C j of cc code ∧ cc ≠ f
theorem CloG.sub {C : RC} {G G' : Hp} {f : Addr} {j : Nat} {v : V} (s : Sub G G') (h : CloG C G f j v) : CloG C G' f j v :=
  let ⟨of, oc, cc, code, u, h1, h2, h3, h4, h5, h6, h7⟩ := h
  ⟨of, oc, cc, code, u, s _ _ h1, s _ _ h2, h3, h4, s _ _ h5, h6, h7⟩
inductive RepV (C : RC) (G : Hp) (m : List Addr) : V → Val → Prop
  | d {v : V} {x : D} : Rep C G v x → RepV C G m v (.d x)
  | r {i : Nat} {a : Addr} : m[i]? = some a → RepV C G m (.ref a) (.r i)
  | s {a : Addr} {ns : List Int} : SqL C.K G a (ns.map V.int) → RepV C G m (.ref a) (.s ns)
  | a {p : Addr} {d : Option Addr} : (∀ q, d = some q → ∃ fs, G q = some (.xd fs)) → RepV C G m (.ref p) (.a p d)
  | c {f : Addr} {j : Nat} {v : V} {x : Val} : CloG C G f j v → RepV C G m v x → RepV C G m (.ref f) (.c j x)
  | f {j : Nat} : RepV C G m (.ref (C.cls (200 + j))) (.f j)
inductive RepVs (C : RC) (G : Hp) (m : List Addr) : List V → List Val → Prop
  | nil : RepVs C G m [] []
  | cons {v : V} {vs : List V} {x : Val} {xs : List Val} : RepV C G m v x → RepVs C G m vs xs → RepVs C G m (v :: vs) (x :: xs)
def MRep (C : RC) (G : Hp) (m : List Addr) (H : Hp) (a : Addr) : MO → Prop
  | .lst xs => ∃ vs, H a = some (.lst vs) ∧ RepAll C G vs xs
  | .dK ps => ∃ vs, H a = some (.dK (kz ps vs)) ∧ RepAll C G vs (ps.map (·.2))
  | .dN ps => ∃ xs, H a = some (DictN C.w a xs) ∧ (a == sysModules) = false ∧ RepN C G ps xs
  | .dL ps => ∃ od xs, G a = some (.frz od (DictN C.w a xs)) ∧ (a == sysModules) = false ∧ RepN C G ps xs
  | .ins c fs => ∃ dx vs, H a = some (.ins (C.cls c) dx vs) ∧ vs.map (·.1) = fs.map (·.1) ∧ RepVs C G m (vs.map (·.2)) (fs.map (·.2))
  | .gone => True
def isTbl : HO → Bool
  | .tbl _ => true
  | _ => false
/-- the tables of code objects -/
def TabsOk (C : RC) (G : Hp) (m : List Addr) (H : Hp) : Prop := ∀ j, j < C.cls 99 → ∃ ps : Array Value, H (C.cls (100 + j)) = some (.tbl ps) ∧ C.cls (100 + j) ∉ m ∧ G (C.cls (100 + j)) = none ∧ TriplesOk ps.toList ∧ ∀ (pos : Pos) (cv : Value), codeAmong pos ps.toList = some cv → ∃ c, cv = .ref c ∧ G c = some (LamX.CodeO c (tabQ j))
/-- of these nothing is written -/
def isFree : MO → Bool
  | .gone => true
  | .dL _ => true
  | _ => false
structure Rl (C : RC) (G : Hp) (m : List Addr) (H : Hp) (st : Sto) : Prop where
  sub : Sub G H
  len : m.length = st.length
  nd : m.Nodup
  liv : ∀ a ∈ m, H a ≠ none
  out : ∀ (i : Nat) (a : Addr) (o : MO), m[i]? = some a → st[i]? = some o → isFree o = false → G a = none
  obj : ∀ (i : Nat) (o : MO) (a : Addr), st[i]? = some o → m[i]? = some a → MRep C G m H a o
  tab : TabsOk C G m H
  clo : ∀ a ∈ m, ∀ o z, G a ≠ some (.frz o (.own z))
/-- from one state to a later one: what is frozen stays, the mutable ones keep their numbers, all that is neither stays -/
structure Ext (G : Hp) (m : List Addr) (H : Hp) (G' : Hp) (m' : List Addr) (H' : Hp) : Prop where
  sub : Sub G G'
  pre : ∀ (i : Nat) (a : Addr), m[i]? = some a → m'[i]? = some a
  frm : ∀ (a : Addr) (o : HO), H a = some o → a ∉ m → (nt : isTbl o = false := by rfl) → H' a = some o
  new : ∀ a ∈ m', a ∈ m ∨ H a = none
  gn : ∀ a, G' a ≠ none → G a ≠ none ∨ a ∈ m ∨ H a = none
  al : ∀ a, H a ≠ none → H' a ≠ none
theorem Ext.refl (G : Hp) (m : List Addr) (H : Hp) : Ext G m H G m H := ⟨Sub.refl G, fun _ _ h => h, fun _ _ h _ _ => h, fun _ h => .inl h, fun _ h => .inl h, fun _ h => h⟩
theorem Ext.trans {A B E : Hp} {m n k : List Addr} {H H1 H2 : Hp} (a : Ext A m H B n H1) (b : Ext B n H1 E k H2) : Ext A m H E k H2 := by
  have nn : ∀ c, H1 c = none → H c = none := fun c z => by
    cases q : H c with
    | none => rfl
    | some o => exact absurd z (a.al c (by rw [q]; simp))
  refine ⟨a.sub.trans b.sub, fun i x h => b.pre i x (a.pre i x h), fun c o h hc nt => b.frm c o (a.frm c o h hc nt) (fun hn => ?_) nt, fun c hc => ?_, fun c hc => ?_, fun c hc => b.al c (a.al c hc)⟩
  · rcases a.new c hn with z | z
    · exact hc z
    · rw [h] at z; cases z
  · rcases b.new c hc with z | z
    · exact a.new c z
    · exact .inr (nn c z)
  · rcases b.gn c hc with z | z | z
    · exact a.gn c z
    · rcases a.new c z with z | z
      · exact .inr (.inl z)
      · exact .inr (.inr z)
    · exact .inr (.inr (nn c z))
/-- the tables stay -/
theorem TabsOk.step {C : RC} {G G' : Hp} {m m' : List Addr} {H H' : Hp} (t : TabsOk C G m H) (e : Ext G m H G' m' H') (k : ∀ P ps, H P = some (.tbl ps) → P ∉ m → H' P = some (.tbl ps)) : TabsOk C G' m' H' := fun j hj => by
  obtain ⟨ps, h1, h2, h3, h4, h5⟩ := t j hj
  refine ⟨ps, k _ _ h1 h2, fun z => ?_, ?_, h4, fun pos cv hc => ?_⟩
  · rcases e.new _ z with q | q
    · exact h2 q
    · rw [h1] at q; cases q
  · cases q : G' (C.cls (100 + j)) with
    | none => rfl
    | some o =>
      rcases e.gn _ (by rw [q]; simp) with z | z | z
      · exact absurd h3 z
      · exact absurd z h2
      · rw [h1] at z; cases z
  · obtain ⟨c, e1, e2⟩ := h5 pos cv hc
    exact ⟨c, e1, e.sub _ _ e2⟩
theorem RepV.ext {C : RC} {G G' : Hp} {m m' : List Addr} {H H' : Hp} (e : Ext G m H G' m' H') {v : V} {x : Val} (h : RepV C G m v x) : RepV C G' m' v x := by
  induction h with
  | d h => exact .d (h.sub e.sub)
  | r h => exact .r (e.pre _ _ h)
  | s h => exact .s (SqL.sub e.sub h)
  | a h => exact .a fun q hq => let ⟨fs, z⟩ := h q hq; ⟨fs, e.sub _ _ z⟩
  | c h _ ih => exact .c (h.sub e.sub) ih
  | f => exact .f
theorem RepVs.ext {C : RC} {G G' : Hp} {m m' : List Addr} {H H' : Hp} (e : Ext G m H G' m' H') : ∀ {vs : List V} {xs : List Val}, RepVs C G m vs xs → RepVs C G' m' vs xs
  | _, _, .nil => .nil
  | _, _, .cons h r => .cons (h.ext e) (RepVs.ext e r)
theorem RepVs.length {C : RC} {G : Hp} {m : List Addr} : ∀ {vs : List V} {xs : List Val}, RepVs C G m vs xs → vs.length = xs.length
  | _, _, .nil => rfl
  | _, _, .cons h r => by simp [RepVs.length r]
theorem RepVs.get {C : RC} {G : Hp} {m : List Addr} : ∀ {vs : List V} {xs : List Val} {i : Nat} {x : Val}, RepVs C G m vs xs → xs[i]? = some x → ∃ v, vs[i]? = some v ∧ RepV C G m v x
  | _, _, _, _, .nil, e => by simp at e
  | _, _, 0, _, .cons h r, e => by simp at e; subst e; exact ⟨_, rfl, h⟩
  | _, _, i + 1, _, .cons h r, e => by simpa using RepVs.get r (by simpa using e)
def EnvR (C : RC) (G : Hp) (m : List Addr) (σ : St) (env : Ev) : Prop := σ.length = env.length ∧ ∀ (i : Nat) (v : Val), env[i]? = some (some v) → ∃ x, σ[i]? = some (some x) ∧ RepV C G m x v
theorem EnvR.ext {C : RC} {G G' : Hp} {m m' : List Addr} {H H' : Hp} (e : Ext G m H G' m' H') {σ : St} {env : Ev} (h : EnvR C G m σ env) : EnvR C G' m' σ env :=
  ⟨h.1, fun i v q => let ⟨x, a, b⟩ := h.2 i v q; ⟨x, a, b.ext e⟩⟩
theorem EnvR.set {C : RC} {G : Hp} {m : List Addr} {σ : St} {env : Ev} {x : V} {v : Val} (h : EnvR C G m σ env) (k : RepV C G m x v) (i : Nat) : EnvR C G m (σ.set i (some x)) (env.set i (some v)) := by
  refine ⟨by simpa using h.1, fun j u q => ?_⟩
  by_cases e : i = j
  · subst e
    by_cases hl : i < env.length
    · rw [List.getElem?_set_self hl] at q
      cases q
      exact ⟨x, List.getElem?_set_self (by rw [h.1]; exact hl), k⟩
    · rw [List.getElem?_eq_none (by simpa using hl)] at q
      cases q
  · rw [List.getElem?_set_ne e] at q ⊢
    exact h.2 j u q

/-! ### new things -/
section
variable {C : RC} {G : Hp} {m : List Addr} {H : Hp} {st : Sto}
theorem Sub.upd {G : Hp} {p : Addr} {o : HO} (h : G p = none) : Sub G (upd G p o) := fun a u e => by
  by_cases q : a = p
  · subst q; rw [h] at e; cases e
  · rw [upd_ne q]; exact e
theorem sub_upd {G H : Hp} {p : Addr} {o : HO} (s : Sub G H) : Sub (upd G p o) (upd H p o) := fun a u e => by
  by_cases q : a = p
  · subst q; rw [upd_same] at e ⊢; exact e
  · rw [upd_ne q] at e ⊢; exact s _ _ e
theorem upd_al {H : Hp} {p : Addr} {o : HO} (a : Addr) (h : H a ≠ none) : upd H p o a ≠ none := by
  by_cases q : a = p
  · subst q; rw [upd_same]; simp
  · rw [upd_ne q]; exact h
theorem Rl.freeG (r : Rl C G m H st) {p : Addr} (h : H p = none) : G p = none := by
  cases e : G p with
  | none => rfl
  | some o => rw [r.sub _ _ e] at h; cases h
theorem Rl.notin (r : Rl C G m H st) {p : Addr} (h : H p = none) : p ∉ m := fun k => r.liv p k h
theorem MRep.mono {G' H' H1 H2 : Hp} {m' : List Addr} (e : Ext G m H1 G' m' H2) {a : Addr} {o : MO} (h : MRep C G m H a o) (k : ∀ u, H a = some u → H' a = some u) : MRep C G' m' H' a o := by
  cases o with
  | lst xs => obtain ⟨vs, q, r⟩ := h; exact ⟨vs, k _ q, r.sub e.sub⟩
  | dK ps => obtain ⟨vs, q, r⟩ := h; exact ⟨vs, k _ q, r.sub e.sub⟩
  | dN ps => obtain ⟨xs, q, z, r⟩ := h; exact ⟨xs, k _ q, z, r.sub e.sub⟩
  | dL ps => obtain ⟨od, xs, q, z, r⟩ := h; exact ⟨od, xs, e.sub _ _ q, z, r.sub e.sub⟩
  | ins c fs => obtain ⟨dx, vs, q, n, r⟩ := h; exact ⟨dx, vs, k _ q, n, r.ext e⟩
  | gone => trivial
/-- a frozen object is laid -/
theorem Rl.laid (r : Rl C G m H st) {p : Addr} (h : H p = none) (o : HO) : Rl C (upd G p o) m (upd H p o) st ∧ Ext G m H (upd G p o) m (upd H p o) := by
  have hg := r.freeG h
  have hm := r.notin h
  have ex : Ext G m H (upd G p o) m (upd H p o) := ⟨Sub.upd hg, fun _ _ z => z, fun a u z _ _ => by rw [upd_ne (ne_of_none z h)]; exact z, fun _ z => .inl z, fun a z => by
    by_cases q : a = p
    · subst q; exact .inr (.inr h)
    · rw [upd_ne q] at z; exact .inl z, upd_al⟩
  have ne : ∀ a ∈ m, a ≠ p := fun a ha e => hm (e ▸ ha)
  refine ⟨⟨sub_upd r.sub, r.len, r.nd, fun a ha => by rw [upd_ne (ne a ha)]; exact r.liv a ha, fun i a u e1 e2 e3 => ?_, fun i u a e1 e2 => ?_, r.tab.step ex fun P ps z _ => by rw [upd_ne (ne_of_none z h)]; exact z, fun a ha o' z => by rw [upd_ne (ne a ha)]; exact r.clo a ha o' z⟩, ex⟩
  · rw [upd_ne (ne a (List.mem_of_getElem? e1))]; exact r.out i a u e1 e2 e3
  · refine (r.obj i u a e1 e2).mono ex fun z q => ?_
    rw [upd_ne (ne a (List.mem_of_getElem? e2))]; exact q
/-- a mutable one -/
theorem Rl.alloc (r : Rl C G m H st) {p : Addr} (h : H p = none) (o : HO) (mo : MO) (k : MRep C G (m ++ [p]) (upd H p o) p mo) : Rl C G (m ++ [p]) (upd H p o) (st ++ [mo]) ∧ Ext G m H G (m ++ [p]) (upd H p o) := by
  have hg := r.freeG h
  have hm := r.notin h
  have pre : ∀ (i : Nat) (a : Addr), m[i]? = some a → (m ++ [p])[i]? = some a := fun i a e => by
    rw [List.getElem?_append_left (List.getElem?_eq_some_iff.mp e).1]; exact e
  have ex : Ext G m H G (m ++ [p]) (upd H p o) := ⟨Sub.refl G, pre, fun a u z _ _ => by rw [upd_ne (ne_of_none z h)]; exact z, fun a z => (List.mem_append.mp z).imp id fun q => by simp at q; subst q; exact h, fun _ z => .inl z, upd_al⟩
  have ne : ∀ a ∈ m, a ≠ p := fun a ha e => hm (e ▸ ha)
  have cut : ∀ (i : Nat) (a : Addr) (u : MO), (m ++ [p])[i]? = some a → (st ++ [mo])[i]? = some u → (m[i]? = some a ∧ st[i]? = some u) ∨ (a = p ∧ u = mo) := fun i a u e1 e2 => by
    by_cases hi : i < m.length
    · rw [List.getElem?_append_left hi] at e1
      rw [List.getElem?_append_left (by rw [← r.len]; exact hi)] at e2
      exact .inl ⟨e1, e2⟩
    · have h1 : i < (m ++ [p]).length := (List.getElem?_eq_some_iff.mp e1).1
      have h2 : i = m.length := by simp at h1; omega
      subst h2
      rw [List.getElem?_append_right (Nat.le_refl _)] at e1
      rw [r.len, List.getElem?_append_right (Nat.le_refl _)] at e2
      simp at e1 e2
      exact .inr ⟨e1.symm, e2.symm⟩
  refine ⟨⟨fun a u e => ?_, by simp [r.len], ?_, fun a ha => ?_, fun i a u e1 e2 e3 => ?_, fun i u a e1 e2 => ?_, r.tab.step ex fun P ps z _ => by rw [upd_ne (ne_of_none z h)]; exact z, fun a ha o' z => (List.mem_append.mp ha).elim (fun q => r.clo a q o' z) fun q => by simp at q; rw [q, hg]; simp⟩, ex⟩
  · rw [upd_ne (fun z => by subst z; rw [hg] at e; cases e)]; exact r.sub _ _ e
  · exact List.nodup_append.mpr ⟨r.nd, by simp, fun a ha b hb => by simp at hb; subst hb; exact ne a ha⟩
  · rcases List.mem_append.mp ha with q | q
    · rw [upd_ne (ne a q)]; exact r.liv a q
    · simp at q; subst q; rw [upd_same]; simp
  · rcases cut i a u e1 e2 with ⟨z1, z2⟩ | ⟨z1, z2⟩
    · exact r.out i a u z1 z2 e3
    · subst z1; exact hg
  · rcases cut i a u e2 e1 with ⟨z1, z2⟩ | ⟨z1, z2⟩
    · exact (r.obj i u a z2 z1).mono ex fun z q => by rw [upd_ne (ne a (List.mem_of_getElem? z1))]; exact q
    · subst z1; subst z2; exact k
theorem nodup_get {l : List Addr} (h : l.Nodup) {i j : Nat} {a : Addr} (e1 : l[i]? = some a) (e2 : l[j]? = some a) : i = j := by
  obtain ⟨h1, q1⟩ := List.getElem?_eq_some_iff.mp e1
  obtain ⟨h2, q2⟩ := List.getElem?_eq_some_iff.mp e2
  exact (List.getElem_inj h).mp (q1.trans q2.symm)
/-- a mutable object is written -/
theorem Rl.write (r : Rl C G m H st) {i : Nat} {a : Addr} {u : MO} (e1 : m[i]? = some a) (e2 : st[i]? = some u) (hu : isFree u = false) (o : HO) (mo : MO) (k : MRep C G m (upd H a o) a mo) : Rl C G m (upd H a o) (st.set i mo) ∧ Ext G m H G m (upd H a o) := by
  have hg := r.out i a u e1 e2 hu
  have hi : i < st.length := (List.getElem?_eq_some_iff.mp e2).1
  have cut : ∀ (j : Nat) (b : Addr) (x : MO), m[j]? = some b → (st.set i mo)[j]? = some x → (j = i ∧ b = a ∧ x = mo) ∨ (b ≠ a ∧ st[j]? = some x) := fun j b x q1 q2 => by
    by_cases hj : j = i
    · subst hj
      rw [e1] at q1; cases q1
      rw [List.getElem?_set_self hi] at q2; cases q2
      exact .inl ⟨rfl, rfl, rfl⟩
    · rw [List.getElem?_set_ne (Ne.symm hj)] at q2
      refine .inr ⟨fun z => ?_, q2⟩
      subst z
      exact hj (nodup_get r.nd q1 e1)
  have ex : Ext G m H G m (upd H a o) := ⟨Sub.refl G, fun _ _ z => z, fun b u z hb _ => by rw [upd_ne (fun q => hb (by rw [q]; exact List.mem_of_getElem? e1))]; exact z, fun _ z => .inl z, fun _ z => .inl z, upd_al⟩
  refine ⟨⟨fun b x e => ?_, by simp [r.len], r.nd, fun b hb => ?_, fun j b x q1 q2 q3 => ?_, fun j x b q1 q2 => ?_, r.tab.step ex fun P ps z hb => by rw [upd_ne (fun q => hb (by rw [q]; exact List.mem_of_getElem? e1))]; exact z, r.clo⟩, ex⟩
  · rw [upd_ne (fun z => by subst z; rw [hg] at e; cases e)]; exact r.sub _ _ e
  · by_cases z : b = a
    · subst z; rw [upd_same]; simp
    · rw [upd_ne z]; exact r.liv b hb
  · rcases cut j b x q1 q2 with ⟨z1, z2, z3⟩ | ⟨z1, z2⟩
    · rw [z2]; exact hg
    · exact r.out j b x q1 z2 q3
  · rcases cut j b x q2 q1 with ⟨z1, z2, z3⟩ | ⟨z1, z2⟩
    · rw [z2, z3]; exact k
    · exact (r.obj j x b z2 q2).mono (Ext.refl G m H) fun z q => by rw [upd_ne z1]; exact q
/-- a mutable list is frozen -/
theorem Rl.freeze (r : Rl C G m H st) {i : Nat} {a : Addr} {xs : List D} (e1 : m[i]? = some a) (e2 : st[i]? = some (.lst xs)) :
    ∃ G', Rl C G' m H (st.set i .gone) ∧ Ext G m H G' m H ∧ Rep C G' (.ref a) (.list xs) := by
  obtain ⟨vs, hv, rv⟩ := r.obj i _ a e2 e1
  have hg := r.out i a _ e1 e2 rfl
  have ex : Ext G m H (upd G a (.lst vs)) m H := ⟨Sub.upd hg, fun _ _ z => z, fun _ _ z _ _ => z, fun _ z => .inl z, fun b z => by
    by_cases q : b = a
    · subst q; exact .inr (.inl (List.mem_of_getElem? e1))
    · rw [upd_ne q] at z; exact .inl z, fun _ z => z⟩
  have hi : i < st.length := (List.getElem?_eq_some_iff.mp e2).1
  have cut : ∀ (j : Nat) (b : Addr) (x : MO), m[j]? = some b → (st.set i .gone)[j]? = some x → (j = i ∧ b = a ∧ x = .gone) ∨ (b ≠ a ∧ st[j]? = some x) := fun j b x q1 q2 => by
    by_cases hj : j = i
    · subst hj
      rw [e1] at q1; cases q1
      rw [List.getElem?_set_self hi] at q2; cases q2
      exact .inl ⟨rfl, rfl, rfl⟩
    · rw [List.getElem?_set_ne (Ne.symm hj)] at q2
      refine .inr ⟨fun z => ?_, q2⟩
      subst z
      exact hj (nodup_get r.nd q1 e1)
  refine ⟨upd G a (.lst vs), ⟨fun b x e => ?_, by simp [r.len], r.nd, r.liv, fun j b x q1 q2 q3 => ?_, fun j x b q1 q2 => ?_, r.tab.step ex fun _ _ z _ => z, fun b hb o' z => by
    by_cases q : b = a
    · subst q; rw [upd_same]; simp
    · rw [upd_ne q]; exact r.clo b hb o' z⟩, ex, .lst upd_same (rv.sub ex.sub)⟩
  · by_cases z : b = a
    · subst z; rw [upd_same] at e; cases e; exact hv
    · rw [upd_ne z] at e; exact r.sub _ _ e
  · rcases cut j b x q1 q2 with ⟨z1, z2, z3⟩ | ⟨z1, z2⟩
    · rw [z3] at q3; cases q3
    · rw [upd_ne z1]; exact r.out j b x q1 z2 q3
  · rcases cut j b x q2 q1 with ⟨z1, z2, z3⟩ | ⟨z1, z2⟩
    · rw [z3]; trivial
    · exact (r.obj j x b z2 q2).mono ex fun z q => q
end

/-! ### judgements -/
abbrev XW := Value → Option Addr → Hp → Prop
def xField (j : Nat) : Str := if j = 4 then "saying" else "number"
/-- an exception as it leaves: its class, its own dict -/
def ExcR (C : RC) (G H : Hp) (e : Exn) (cls : Value) (d : Option Addr) : Prop := cls = .ref (C.cls e.cls) ∧ match e.arg with
  | none => d = none
  | some x => ∃ a v, d = some a ∧ G a = some (.xd [(xField e.cls, v)]) ∧ Rep C G v x
def Post {α β : Type} (C : RC) (rel : Hp → List Addr → β → α → Prop) (G : Hp) (m : List Addr) (H : Hp) (Q : β → Hp → Prop) (W : XW) : R α → Prop
  | .ok v st => ∀ x H' G' m', Ext G m H G' m' H' → Rl C G' m' H' st → rel G' m' x v → Q x H'
  | .exc e st => ∀ cls d H' G' m', Ext G m H G' m' H' → Rl C G' m' H' st → ExcR C G' H' e cls d → W cls d H'
  | .bad => False
def tE (C : RC) (W : WX) (ev : EE) : TE := fun σ H Q => ∃ G m env st, Rl C G m H st ∧ EnvR C G m σ env ∧ Post C (RepV C) G m H Q (fun c d H' => W c d σ H') (ev env st)
def relB (_ : Hp) (_ : List Addr) (x : Bool) (v : Bool) : Prop := x = v
def tT (C : RC) (W : WX) (ev : ET) : TT := fun σ H Q => ∃ G m env st, Rl C G m H st ∧ EnvR C G m σ env ∧ Post C relB G m H Q (fun c d H' => W c d σ H') (ev env st)
def tA (C : RC) (W : WX) (ev : EA) : TA := fun σ H Q => ∃ G m env st, Rl C G m H st ∧ EnvR C G m σ env ∧ Post C (RepVs C) G m H Q (fun c d H' => W c d σ H') (ev env st)
def PostS (C : RC) (G : Hp) (m : List Addr) (H : Hp) (E : Ends) (W : WX) : R Fl → Prop
  | .ok (.nx env) st => ∀ σ' H' G' m', Ext G m H G' m' H' → Rl C G' m' H' st → EnvR C G' m' σ' env → E.nx σ' H'
  | .ok (.bk env) st => ∀ σ' H' G' m', Ext G m H G' m' H' → Rl C G' m' H' st → EnvR C G' m' σ' env → E.bk σ' H'
  | .ok (.ct env) st => ∀ σ' H' G' m', Ext G m H G' m' H' → Rl C G' m' H' st → EnvR C G' m' σ' env → E.ct σ' H'
  | .ok (.rt v) st => ∀ x H' G' m', Ext G m H G' m' H' → Rl C G' m' H' st → RepV C G' m' x v → E.rt x H'
  | .ok (.ex e env) st => ∀ cls d σ' H' G' m', Ext G m H G' m' H' → Rl C G' m' H' st → EnvR C G' m' σ' env → ExcR C G' H' e cls d → W cls d σ' H'
  | .exc _ _ => False
  | .bad => False
def tS (C : RC) (W : WX) (ev : ES) : TS := fun E σ H => ∃ G m env st, Rl C G m H st ∧ EnvR C G m σ env ∧ PostS C G m H E W (ev env st)
end Mi
end

section
set_option maxRecDepth 100000
set_option autoImplicit false
namespace Mi
open PySem PySem.Spec L2

/-! ### moving along -/
section
variable {α β : Type} {C : RC} {G G' : Hp} {m m' : List Addr} {H H' : Hp} {W : XW}
theorem Post.ext {rel : Hp → List Addr → β → α → Prop} {Q : β → Hp → Prop} (e : Ext G m H G' m' H') {x : R α} (h : Post C rel G m H Q W x) : Post C rel G' m' H' Q W x := by
  cases x with
  | ok v st => exact fun x H2 G2 m2 e2 => h x H2 G2 m2 (e.trans e2)
  | exc v st => exact fun cls d H2 G2 m2 e2 => h cls d H2 G2 m2 (e.trans e2)
  | bad => exact h
theorem PostS.ext {E : Ends} {WS : WX} (e : Ext G m H G' m' H') {x : R Fl} (h : PostS C G m H E WS x) : PostS C G' m' H' E WS x := by
  cases x with
  | ok v st =>
    cases v with
    | nx env => exact fun σ' H2 G2 m2 e2 => h σ' H2 G2 m2 (e.trans e2)
    | bk env => exact fun σ' H2 G2 m2 e2 => h σ' H2 G2 m2 (e.trans e2)
    | ct env => exact fun σ' H2 G2 m2 e2 => h σ' H2 G2 m2 (e.trans e2)
    | rt v => exact fun σ' H2 G2 m2 e2 => h σ' H2 G2 m2 (e.trans e2)
    | ex v env => exact fun cls d σ' H2 G2 m2 e2 => h cls d σ' H2 G2 m2 (e.trans e2)
  | exc v st => exact h
  | bad => exact h
theorem Post.bindE {γ δ : Type} {rel : Hp → List Addr → β → α → Prop} {rel2 : Hp → List Addr → δ → γ → Prop} {Q : β → Hp → Prop} {Q2 : δ → Hp → Prop} {x : R α} {f : α → Sto → R γ} (h : Post C rel2 G m H Q2 W (x.bind f))
    (k : ∀ v st a H1 G1 m1, x = .ok v st → Ext G m H G1 m1 H1 → Rl C G1 m1 H1 st → rel G1 m1 a v → Post C rel2 G1 m1 H1 Q2 W (f v st) → Q a H1) : Post C rel G m H Q W x := by
  cases x with
  | ok v st => exact fun a H1 G1 m1 e rl rp => k v st a H1 G1 m1 rfl e rl rp (Post.ext e h)
  | exc v st => exact h
  | bad => exact h
/-- what a statement asks behind an expression -/
theorem Post.bindS {rel : Hp → List Addr → β → α → Prop} {Q : β → Hp → Prop} {E : Ends} {WS : WX} {σ : L2.St} {env : Ev} {x : R α} {f : α → Sto → R Fl} (en : EnvR C G m σ env) (h : PostS C G m H E WS (x.bindS env f))
    (k : ∀ v st a H1 G1 m1, x = .ok v st → Ext G m H G1 m1 H1 → Rl C G1 m1 H1 st → rel G1 m1 a v → PostS C G1 m1 H1 E WS (f v st) → Q a H1) : Post C rel G m H Q (fun c d H' => WS c d σ H') x := by
  cases x with
  | ok v st => exact fun a H1 G1 m1 e rl rp => k v st a H1 G1 m1 rfl e rl rp (PostS.ext e h)
  | exc v st => exact fun cls d H' G2 m2 e rl => h cls d σ H' G2 m2 e rl (en.ext e)
  | bad => exact h
def R.of {α : Type} : Option (α × Sto) → R α
  | some p => .ok p.1 p.2
  | none => .bad
@[simp] theorem R.of_some {α : Type} (a : α) (s : Sto) : R.of (some (a, s)) = .ok a s := rfl
@[simp] theorem R.of_none {α : Type} : R.of (none : Option (α × Sto)) = .bad := rfl
def PostO (C : RC) (rel : Hp → List Addr → β → α → Prop) (G : Hp) (m : List Addr) (H : Hp) (Q : β → Hp → Prop) : Option (α × Sto) → Prop
  | some p => ∀ x H' G' m', Ext G m H G' m' H' → Rl C G' m' H' p.2 → rel G' m' x p.1 → Q x H'
  | none => False
theorem Post.of {rel : Hp → List Addr → β → α → Prop} {Q : β → Hp → Prop} {o : Option (α × Sto)} (h : Post C rel G m H Q W (R.of o)) : PostO C rel G m H Q o := by
  cases o with
  | none => exact h
  | some p => exact h
end
section
variable {X : Cx} {e : Expr}
theorem _root_.L2.PE.impM {t t' : TE} (h : PE X e t) (i : ∀ σ H Q, t' σ H Q → t σ H Q) : PE X e t' := ⟨fun pins s σ H Q I q => h.run pins s σ H Q I (i _ _ _ q)⟩
theorem _root_.L2.PT.impM {t t' : TT} (h : PT X e t) (i : ∀ σ H Q, t' σ H Q → t σ H Q) : PT X e t' := ⟨fun pins s σ H Q I q => h.run pins s σ H Q I (i _ _ _ q)⟩
theorem _root_.L2.PW.impM {t t' : TT} (h : PW X e t) (i : ∀ σ H Q, t' σ H Q → t σ H Q) : PW X e t' := ⟨fun wh pins s σ H Q I q => h.run wh pins s σ H Q I (i _ _ _ q)⟩
theorem _root_.L2.PA.impM {es : List Expr} {t t' : TA} (h : PA X es t) (i : ∀ σ H Q, t' σ H Q → t σ H Q) : PA X es t' := ⟨fun pos pins s σ H Q I q => h.run pos pins s σ H Q I (i _ _ _ q)⟩
theorem _root_.L2.PS.impM {st : Stmt} {t t' : TS} (h : PS X st t) (i : ∀ D σ H, t' D σ H → t D σ H) : PS X st t' := ⟨fun pins s σ H D I q => h.run pins s σ H D I (i _ _ _ q)⟩
theorem _root_.L2.PSs.impM {st : List Stmt} {t t' : TS} (h : PSs X st t) (i : ∀ D σ H, t' D σ H → t D σ H) : PSs X st t' := ⟨fun pins s σ H D I q => h.run pins s σ H D I (i _ _ _ q)⟩
theorem opR_imp {f : Value → Value → Sem Value} {r r' : R2} (h : OpR X f r) (i : ∀ x y H Q, r' x y H Q → r x y H Q) : OpR X f r' := fun pins s σ H x y v u Q I rx ry q => h pins s σ H x y v u Q I rx ry (i _ _ _ _ q)
theorem callR_imp {f : Value} {r r' : List V → Hp → VK → Prop} (h : CallR X f r) (i : ∀ xs H Q, r' xs H Q → r xs H Q) : CallR X f r' := fun pins s σ H xs us Q I rx q => h pins s σ H xs us Q I rx (i _ _ _ q)
end

/-! ### the judgements -/
abbrev rc (X : Cx) (cl : Nat → Addr) : RC := ⟨X.K, X.w, cl⟩
abbrev SE (cl : Nat → Addr) (X : Cx) (W : WX) (e : Expr) (ev : EE) : Prop := PE X e (tE (rc X cl) W ev)
abbrev ST (cl : Nat → Addr) (X : Cx) (W : WX) (e : Expr) (ev : ET) : Prop := PT X e (tT (rc X cl) W ev)
abbrev SW (cl : Nat → Addr) (X : Cx) (W : WX) (e : Expr) (ev : ET) : Prop := PW X e (tT (rc X cl) W ev)
abbrev SA (cl : Nat → Addr) (X : Cx) (W : WX) (es : List Expr) (ev : EA) : Prop := PA X es (tA (rc X cl) W ev)
abbrev SS (cl : Nat → Addr) (X : Cx) (W : WX) (s : Stmt) (ev : ES) : Prop := PS X s (tS (rc X cl) W ev)
abbrev SSs (cl : Nat → Addr) (X : Cx) (W : WX) (s : List Stmt) (ev : ES) : Prop := PSs X s (tS (rc X cl) W ev)

/-! ### names, constants -/
section
variable {cl : Nat → Addr} {X : Cx} {W : WX} {pos : Pos}
def eVar (i : Nat) : EE := fun env st => match env[i]? with
  | some (some v) => .ok v st
  | _ => .bad
theorem se_var (i : Nat) {x : Str} (hN : X.N[i]? = some x := by rfl) (hv : Vis X.env.scope x := by first | exact Or.inl rfl | exact Or.inr (Or.inl rfl) | exact Or.inr (Or.inr rfl)) (hd : (x == ("__debug__" : Str)) = false := by decide)
    (hcd : (x == ("__classdict__" : Str)) = false := by decide) : SE cl X W (.Name x pos) (eVar i) := by
  refine (pe_var hN hv hd hcd).impM fun σ H Q h => ?_
  obtain ⟨G, m, env, st, rl, en, p⟩ := h
  unfold eVar at p
  split at p
  · rename_i v hv
    obtain ⟨x, hx, rx⟩ := en.2 i v hv
    exact ⟨x, hx, p x H G m (Ext.refl _ _ _) rl rx⟩
  · exact p.elim
def eC (x : D) : EE := fun _ st => .ok (.d x) st
theorem tC_of {v : V} {x : D} (r : ∀ G, Rep (rc X cl) G v x) {σ : L2.St} {H : Hp} {Q : VK} (h : tE (rc X cl) W (eC x) σ H Q) : tC v σ H Q := by
  obtain ⟨G, m, env, st, rl, en, p⟩ := h
  exact p v H G m (Ext.refl _ _ _) rl (.d (r G))
theorem se_int {i : Int} {j : Nat} : SE cl X W (.Constant (.int i) j pos) (eC (.int i)) := pe_int.impM fun _ _ _ h => tC_of (fun _ => .int i) h
theorem se_bl {b : Bool} {j : Nat} : SE cl X W (.Constant (.bool b) j pos) (eC (.bool b)) := pe_bl.impM fun _ _ _ h => tC_of (fun _ => .bl b) h
theorem se_non {j : Nat} : SE cl X W (.Constant .none j pos) (eC .none) := pe_non.impM fun _ _ _ h => tC_of (fun _ => .non) h
theorem se_str {x : Str} {j : Nat} : SE cl X W (.Constant (.str x) j pos) (eC (.str x)) := pe_str.impM fun _ _ _ h => tC_of (fun _ => .str x) h
/-- a constant of the module -/
theorem se_glob {x : Str} {v : V} {u : Value} {d : D} (r : ∀ G, Rep (rc X cl) G v d) (hg : Gl X x) (hm : X.mg x = some u) (rv : RelV v u) (hd : (x == ("__debug__" : Str)) = false := by decide) : SE cl X W (.Name x pos) (eC d) :=
  (pe_glob hg hm rv hd).impM fun _ _ _ h => tC_of r h
end

/-! ### two things and an operation -/
def eOp (f : Val → Val → Sto → Option (Val × Sto)) (a b : EE) : EE := fun env st => (a env st).bind fun x s1 => (b env s1).bind fun y s2 => R.of (f x y s2)
def rO (C : RC) (f : Val → Val → Sto → Option (Val × Sto)) : R2 := fun x y H Q => ∃ G m st a b, Rl C G m H st ∧ RepV C G m x a ∧ RepV C G m y b ∧ PostO C (RepV C) G m H Q (f a b st)
def pur2 (f : D → D → Option D) (x y : Val) (s : Sto) : Option (Val × Sto) := match x, y with
  | .d x, .d y => (f x y).map fun z => (.d z, s)
  | _, _ => none
theorem tOp_of {C : RC} {W : WX} {f : Val → Val → Sto → Option (Val × Sto)} {a b : EE} {σ : L2.St} {H : Hp} {Q : VK} (h : tE C W (eOp f a b) σ H Q) : tOp (rO C f) (tE C W a) (tE C W b) σ H Q := by
  obtain ⟨G, m, env, st, rl, en, p⟩ := h
  exact ⟨G, m, env, st, rl, en, Post.bindE p fun v s1 x H1 G1 m1 _ e1 rl1 r1 p1 => ⟨G1, m1, env, s1, rl1, en.ext e1, Post.bindE p1 fun u s2 y H2 G2 m2 _ e2 rl2 r2 p2 => ⟨G2, m2, s2, v, u, rl2, r1.ext e2, r2, p2.of⟩⟩⟩
section
variable {cl : Nat → Addr} {X : Cx} {W : WX} {pos : Pos} {a b c : Expr} {ea eb ec : EE} {f g : Val → Val → Sto → Option (Val × Sto)}
theorem se_op {op : Operator} (ho : OpR X (binaryOp op) (rO (rc X cl) f)) (ha : SE cl X W a ea) (hb : SE cl X W b eb) : SE cl X W (.BinOp a op b pos) (eOp f ea eb) := (pe_op ho ha hb).impM fun _ _ _ h => tOp_of h
theorem se_cmp {op : CmpOp} (ho : OpR X (compareOp op) (rO (rc X cl) f)) (ha : SE cl X W a ea) (hb : SE cl X W b eb) (hm : behindInMarks op b = false) : SE cl X W (.Compare a [op] [b] pos) (eOp f ea eb) := (pe_cmpR ho ha hb hm).impM fun _ _ _ h => tOp_of h
def eTst (a : EE) : ET := fun env st => (a env st).bind fun v s => match v with
  | .d (.bool b) => .ok b s
  | _ => .bad
theorem tTest_of {C : RC} {ea : EE} {σ : L2.St} {H : Hp} {Q : Bool → Hp → Prop} (h : tT C W (eTst ea) σ H Q) : tTest (tE C W ea) σ H Q := by
  obtain ⟨G, m, env, st, rl, en, p⟩ := h
  refine ⟨G, m, env, st, rl, en, Post.bindE p fun v s1 x H1 G1 m1 _ e1 rl1 r1 p1 => ?_⟩
  split at p1
  · rename_i b _
    cases r1 with
    | d r => cases r; exact ⟨b, rfl, p1 b H1 G1 m1 (Ext.refl _ _ _) rl1 rfl⟩
  · exact p1.elim
theorem st_cmp {op : CmpOp} (ho : OpR X (compareOp op) (rO (rc X cl) f)) (ha : SE cl X W a ea) (hb : SE cl X W b eb) (hm : behindInMarks op b = false) : ST cl X W (.Compare a [op] [b] pos) (eTst (eOp f ea eb)) :=
  (pt_cmpR ho ha hb hm).impM fun σ H Q h => by
    have q := tTest_of h
    exact tOp_of q
theorem st_val {e : Expr} {ee : EE} (h : SE cl X W e ee) (he : ∀ whole, isTrue e X.env whole = (do let v ← whole; standAt e.pos; holding [v] (truthy v)) := by intro _; rfl) : ST cl X W e (eTst ee) :=
  (pt_val h he).impM fun σ H Q h => tTest_of h
/-- a op b op' c -/
def eChain (f g : Val → Val → Sto → Option (Val × Sto)) (a b c : EE) : EE := fun env st => (a env st).bind fun x s1 => (b env s1).bind fun y s2 => (R.of (f x y s2)).bind fun z s3 => match z with
  | .d (.bool true) => (c env s3).bind fun w s4 => R.of (g y w s4)
  | .d (.bool false) => .ok (.d (.bool false)) s3
  | _ => .bad
theorem tChain_of {C : RC} {σ : L2.St} {H : Hp} {Q : VK} (h : tE C W (eChain f g ea eb ec) σ H Q) : tChain (rO C f) (rO C g) (tE C W ea) (tE C W eb) (tE C W ec) σ H Q := by
  obtain ⟨G, m, env, st, rl, en, p⟩ := h
  refine ⟨G, m, env, st, rl, en, Post.bindE p fun v s1 x H1 G1 m1 _ e1 rl1 r1 p1 => ⟨G1, m1, env, s1, rl1, en.ext e1, Post.bindE p1 fun u s2 y H2 G2 m2 _ e2 rl2 r2 p2 => ⟨G2, m2, s2, v, u, rl2, r1.ext e2, r2, ?_⟩⟩⟩
  refine Post.of (W := fun c d H' => W c d σ H') (Post.bindE p2 fun z s3 k H3 G3 m3 _ e3 rl3 r3 p3 => ?_)
  split at p3
  · cases r3 with
    | d r => cases r; exact ⟨true, rfl, by rw [if_pos rfl]; exact ⟨G3, m3, env, s3, rl3, ((en.ext e1).ext e2).ext e3, Post.bindE p3 fun w s4 q H4 G4 m4 _ e4 rl4 r4 p4 => ⟨G4, m4, s4, u, w, rl4, (r2.ext e3).ext e4, r4, p4.of⟩⟩⟩
  · cases r3 with
    | d r => cases r; exact ⟨false, rfl, by rw [if_neg (by decide)]; exact p3 _ H3 G3 m3 (Ext.refl _ _ _) rl3 (.d (.bl false))⟩
  · exact p3.elim
theorem se_chain {op op' : CmpOp} (ho : OpR X (compareOp op) (rO (rc X cl) f)) (ho' : OpR X (compareOp op') (rO (rc X cl) g)) (ha : SE cl X W a ea) (hb : SE cl X W b eb) (hc : SE cl X W c ec)
    (hm : lastMarks [op, op'] [b, c] = false := by with_unfolding_all rfl) : SE cl X W (.Compare a [op, op'] [b, c] pos) (eChain f g ea eb ec) := (pe_chain ho ho' ha hb hc hm).impM fun _ _ _ h => tChain_of h
theorem st_chain {op op' : CmpOp} (ho : OpR X (compareOp op) (rO (rc X cl) f)) (ho' : OpR X (compareOp op') (rO (rc X cl) g)) (ha : SE cl X W a ea) (hb : SE cl X W b eb) (hc : SE cl X W c ec)
    (hm : lastMarks [op, op'] [b, c] = false := by with_unfolding_all rfl) : ST cl X W (.Compare a [op, op'] [b, c] pos) (eTst (eChain f g ea eb ec)) := (pt_chain ho ho' ha hb hc hm).impM fun _ _ _ h => by
    have q := tTest_of h
    exact tChain_of q

/-! ### and, or, not, if -/
def eAnd (a b : EE) : EE := fun env st => (a env st).bind fun v s => match v with
  | .d (.bool true) => b env s
  | .d (.bool false) => .ok (.d (.bool false)) s
  | _ => .bad
def eOr (a b : EE) : EE := fun env st => (a env st).bind fun v s => match v with
  | .d (.bool true) => .ok (.d (.bool true)) s
  | .d (.bool false) => b env s
  | _ => .bad
def eNot (a : EE) : EE := fun env st => (a env st).bind fun v s => match v with
  | .d (.bool b) => .ok (.d (.bool (!b))) s
  | _ => .bad
def kAnd (a b : ET) : ET := fun env st => (a env st).bind fun v s => match v with
  | true => b env s
  | false => .ok false s
def kOr (a b : ET) : ET := fun env st => (a env st).bind fun v s => match v with
  | true => .ok true s
  | false => b env s
def kNot (a : ET) : ET := fun env st => (a env st).bind fun v s => .ok (!v) s
def eIf (t : ET) (a b : EE) : EE := fun env st => (t env st).bind fun v s => match v with
  | true => a env s
  | false => b env s
variable {rest : List Expr} {ta tb : ET}
theorem se_one {op : BoolOp} (h : SE cl X W a ea) : SE cl X W (.BoolOp op [a] pos) ea := pe_one h
theorem se_and (ha : SE cl X W a ea) (hb : SE cl X W (.BoolOp .And (b :: rest) pos) eb) : SE cl X W (.BoolOp .And (a :: b :: rest) pos) (eAnd ea eb) := (pe_and ha hb).impM fun σ H Q h => by
  obtain ⟨G, m, env, st, rl, en, p⟩ := h
  refine ⟨G, m, env, st, rl, en, Post.bindE p fun v s1 x H1 G1 m1 _ e1 rl1 r1 p1 => ?_⟩
  split at p1
  · cases r1 with
    | d r => cases r; exact ⟨true, rfl, by rw [if_pos rfl]; exact ⟨G1, m1, env, s1, rl1, en.ext e1, p1⟩⟩
  · cases r1 with
    | d r => cases r; exact ⟨false, rfl, by rw [if_neg (by decide)]; exact p1 _ H1 G1 m1 (Ext.refl _ _ _) rl1 (.d (.bl false))⟩
  · exact p1.elim
theorem se_not (ha : SE cl X W a ea) : SE cl X W (.UnaryOp .Not a pos) (eNot ea) := (pe_not ha).impM fun σ H Q h => by
  obtain ⟨G, m, env, st, rl, en, p⟩ := h
  refine ⟨G, m, env, st, rl, en, Post.bindE p fun v s1 x H1 G1 m1 _ e1 rl1 r1 p1 => ?_⟩
  split at p1
  · rename_i b _
    cases r1 with
    | d r => cases r; exact ⟨b, rfl, p1 _ H1 G1 m1 (Ext.refl _ _ _) rl1 (.d (.bl _))⟩
  · exact p1.elim
theorem sw_one_and (ha : ST cl X W a ta) : SW cl X W (.BoolOp .And [a] pos) ta := pw_and1 ha
theorem sw_one_or (ha : ST cl X W a ta) : SW cl X W (.BoolOp .Or [a] pos) ta := pw_or1 ha
theorem sw_and (ha : ST cl X W a ta) (hb : SW cl X W (.BoolOp .And (b :: rest) pos) tb) : SW cl X W (.BoolOp .And (a :: b :: rest) pos) (kAnd ta tb) := (pw_and ha hb).impM fun σ H Q h => by
  obtain ⟨G, m, env, st, rl, en, p⟩ := h
  refine ⟨G, m, env, st, rl, en, Post.bindE p fun v s1 x H1 G1 m1 _ e1 rl1 r1 p1 => ?_⟩
  cases (show x = v from r1)
  cases v with
  | true => rw [if_pos rfl]; exact ⟨G1, m1, env, s1, rl1, en.ext e1, p1⟩
  | false => rw [if_neg (by decide)]; exact p1 _ H1 G1 m1 (Ext.refl _ _ _) rl1 rfl
theorem sw_or (ha : ST cl X W a ta) (hb : SW cl X W (.BoolOp .Or (b :: rest) pos) tb) : SW cl X W (.BoolOp .Or (a :: b :: rest) pos) (kOr ta tb) := (pw_or ha hb).impM fun σ H Q h => by
  obtain ⟨G, m, env, st, rl, en, p⟩ := h
  refine ⟨G, m, env, st, rl, en, Post.bindE p fun v s1 x H1 G1 m1 _ e1 rl1 r1 p1 => ?_⟩
  cases (show x = v from r1)
  cases v with
  | true => rw [if_pos rfl]; exact p1 _ H1 G1 m1 (Ext.refl _ _ _) rl1 rfl
  | false => rw [if_neg (by decide)]; exact ⟨G1, m1, env, s1, rl1, en.ext e1, p1⟩
theorem st_bool {e : Expr} (h : SW cl X W e ta) : ST cl X W e ta := h.pt
theorem st_not (ha : ST cl X W a ta) : ST cl X W (.UnaryOp .Not a pos) (kNot ta) := (pt_not ha).impM fun σ H Q h => by
  obtain ⟨G, m, env, st, rl, en, p⟩ := h
  refine ⟨G, m, env, st, rl, en, Post.bindE p fun v s1 x H1 G1 m1 _ e1 rl1 r1 p1 => ?_⟩
  cases (show x = v from r1)
  exact p1 _ H1 G1 m1 (Ext.refl _ _ _) rl1 rfl
theorem se_if (hc : ST cl X W c ta) (ha : SE cl X W a ea) (hb : SE cl X W b eb) : SE cl X W (.IfExp c a b pos) (eIf ta ea eb) := (pe_ifExp hc ha hb).impM fun σ H Q h => by
  obtain ⟨G, m, env, st, rl, en, p⟩ := h
  refine ⟨G, m, env, st, rl, en, Post.bindE p fun v s1 x H1 G1 m1 _ e1 rl1 r1 p1 => ?_⟩
  cases (show x = v from r1)
  cases v with
  | true => rw [if_pos rfl]; exact ⟨G1, m1, env, s1, rl1, en.ext e1, p1⟩
  | false => rw [if_neg (by decide)]; exact ⟨G1, m1, env, s1, rl1, en.ext e1, p1⟩

/-! ### several -/
def aNil : EA := fun _ st => .ok [] st
def aCons (a : EE) (r : EA) : EA := fun env st => (a env st).bind fun x s1 => (r env s1).bind fun xs s2 => .ok (x :: xs) s2
variable {es : List Expr} {er : EA}
theorem sa_nil : SA cl X W [] aNil := pa_nil.impM fun σ H Q h => by
  obtain ⟨G, m, env, st, rl, en, p⟩ := h
  exact p [] H G m (Ext.refl _ _ _) rl .nil
theorem sa_cons (ha : SE cl X W a ea) (hr : SA cl X W es er) (hs : starEach (a :: es) X.env = (false, eval a X.env) :: starEach es X.env := by rfl) : SA cl X W (a :: es) (aCons ea er) := (pa_cons ha hr hs).impM fun σ H Q h => by
  obtain ⟨G, m, env, st, rl, en, p⟩ := h
  refine ⟨G, m, env, st, rl, en, Post.bindE p fun v s1 x H1 G1 m1 _ e1 rl1 r1 p1 => ⟨G1, m1, env, s1, rl1, en.ext e1, Post.bindE p1 fun u s2 y H2 G2 m2 _ e2 rl2 r2 p2 => ?_⟩⟩
  exact p2 _ H2 G2 m2 (Ext.refl _ _ _) rl2 (.cons (r1.ext e2) r2)
end
end Mi
end

section
set_option maxRecDepth 100000
set_option autoImplicit false
namespace Mi
open PySem PySem.Spec L2

/-! ### helpers -/
section
variable {C : RC} {G : Hp} {m : List Addr} {H : Hp} {st : Sto} {Q : VK} {p : Addr} {vs : List V} {ds : List D}
theorem new_tup (rl : Rl C G m H st) (hp : H p = none) (ra : RepAll C G vs ds) (h : ∀ x H' G' m', Ext G m H G' m' H' → Rl C G' m' H' st → RepV C G' m' x (.d (.tuple ds)) → Q x H') : Q (.ref p) (upd H p (.tup vs)) := by
  obtain ⟨r, e⟩ := rl.laid hp (.tup vs)
  exact h _ _ _ _ e r (.d (.tup (SqT.of upd_same) (ra.sub e.sub)))
theorem new_lst (rl : Rl C G m H st) (hp : H p = none) (ra : RepAll C G vs ds) (h : ∀ x H' G' m', Ext G m H G' m' H' → Rl C G' m' H' st → RepV C G' m' x (.d (.list ds)) → Q x H') : Q (.ref p) (upd H p (.lst vs)) := by
  obtain ⟨r, e⟩ := rl.laid hp (.lst vs)
  exact h _ _ _ _ e r (.d (.lst upd_same (ra.sub e.sub)))
/-- a new list that may be changed -/
theorem new_ref (rl : Rl C G m H st) (hp : H p = none) (ra : RepAll C G vs ds) (h : ∀ x H' G' m', Ext G m H G' m' H' → Rl C G' m' H' (st ++ [.lst ds]) → RepV C G' m' x (.r st.length) → Q x H') : Q (.ref p) (upd H p (.lst vs)) := by
  obtain ⟨r, e⟩ := rl.alloc hp (.lst vs) (.lst ds) ⟨vs, upd_same, ra⟩
  refine h _ _ _ _ e r (.r ?_)
  rw [← rl.len, List.getElem?_append_right (Nat.le_refl _)]
  simp
/-- the items of a list, of a tuple -/
def lsOf (v : Val) (st : Sto) : Option (List D) := match v with
  | .d (.list xs) => some xs
  | .r i => match st[i]? with
    | some (.lst xs) => some xs
    | _ => none
  | _ => none
theorem ls_of (rl : Rl C G m H st) {v : V} {a : Val} {xs : List D} (r : RepV C G m v a) (h : lsOf a st = some xs) : ∃ p vs, v = .ref p ∧ H p = some (.lst vs) ∧ RepAll C G vs xs := by
  cases r with
  | d r =>
    cases r with
    | lst g ra => cases h; exact ⟨_, _, rfl, rl.sub _ _ g, ra⟩
    | non => cases h
    | bl => cases h
    | int => cases h
    | str => cases h
    | tup => cases h
    | dK => cases h
    | dN => cases h
  | r q =>
    simp only [lsOf] at h
    split at h
    · rename_i ys e
      cases h
      obtain ⟨vs, hv, ra⟩ := rl.obj _ _ _ e q
      exact ⟨_, vs, rfl, hv, ra⟩
    · cases h
  | s q => cases h
  | a q => cases h
  | c q _ => cases h
  | f => cases h
/-- of a list or a tuple -/
def sqOf (v : Val) (st : Sto) : Option (List D) := match v with
  | .d (.tuple xs) => some xs
  | v => lsOf v st
theorem sq_of (rl : Rl C G m H st) {v : V} {a : Val} {xs : List D} (r : RepV C G m v a) (h : sqOf a st = some xs) : ∃ p vs, v = .ref p ∧ (H p = some (.lst vs) ∨ SqT C.K H p vs) ∧ RepAll C G vs xs := by
  unfold sqOf at h
  split at h
  · cases h
    cases r with
    | d r =>
      cases r with
      | tup g ra => exact ⟨_, _, rfl, .inr (SqT.sub rl.sub g), ra⟩
  · obtain ⟨p, vs, e, h1, h2⟩ := ls_of rl r h
    exact ⟨p, vs, e, .inl h1, h2⟩
theorem RepAll.ints : ∀ {ns : List Int} {vs : List V}, RepAll C G vs (ns.map PyData.int) → vs = ns.map V.int
  | [], _, h => by cases h; rfl
  | _ :: _, _, h => by
    cases h with
    | cons q r => cases q; rw [List.map_cons, RepAll.ints r]
theorem RepAll.bools : ∀ {ns : List Bool} {vs : List V}, RepAll C G vs (ns.map PyData.bool) → vs = ns.map V.bl
  | [], _, h => by cases h; rfl
  | _ :: _, _, h => by
    cases h with
    | cons q r => cases q; rw [List.map_cons, RepAll.bools r]
end
def intsOf : List D → Option (List Int)
  | [] => some []
  | .int i :: r => (intsOf r).map (i :: ·)
  | _ :: _ => none
theorem intsOf_eq : ∀ {xs : List D} {ns : List Int}, intsOf xs = some ns → xs = ns.map PyData.int
  | [], _, h => by cases h; rfl
  | .int i :: r, ns, h => by
    simp only [intsOf, Option.map_eq_some_iff] at h
    obtain ⟨l, h1, rfl⟩ := h
    rw [intsOf_eq h1]; rfl
  | .none :: _, _, h => by cases h
  | .bool _ :: _, _, h => by cases h
  | .str _ :: _, _, h => by cases h
  | .list _ :: _, _, h => by cases h
  | .tuple _ :: _, _, h => by cases h
  | .dict _ :: _, _, h => by cases h
@[simp] theorem intsOf_map (ns : List Int) : intsOf (ns.map PyData.int) = some ns := by
  induction ns with
  | nil => rfl
  | cons a r ih => simp [intsOf, ih]
def boolsOf : List D → Option (List Bool)
  | [] => some []
  | .bool i :: r => (boolsOf r).map (i :: ·)
  | _ :: _ => none
theorem boolsOf_eq : ∀ {xs : List D} {ns : List Bool}, boolsOf xs = some ns → xs = ns.map PyData.bool
  | [], _, h => by cases h; rfl
  | .bool i :: r, ns, h => by
    simp only [boolsOf, Option.map_eq_some_iff] at h
    obtain ⟨l, h1, rfl⟩ := h
    rw [boolsOf_eq h1]; rfl
  | .none :: _, _, h => by cases h
  | .int _ :: _, _, h => by cases h
  | .str _ :: _, _, h => by cases h
  | .list _ :: _, _, h => by cases h
  | .tuple _ :: _, _, h => by cases h
  | .dict _ :: _, _, h => by cases h
@[simp] theorem boolsOf_map (ns : List Bool) : boolsOf (ns.map PyData.bool) = some ns := by
  induction ns with
  | nil => rfl
  | cons a r ih => simp [boolsOf, ih]

/-! ### whole numbers -/
section
variable {cl : Nat → Addr} {X : Cx}
def dI (f : Int → Int → Option D) (x y : D) : Option D := match x, y with
  | .int i, .int j => f i j
  | _, _ => none
/-- an operation of ints by its rule -/
theorem opI_of {g : Value → Value → Sem Value} {r : R2} {f : Int → Int → Option D} (h : OpR X g r) (k : ∀ i j d H Q, f i j = some d → (∀ v, (∀ G, Rep (rc X cl) G v d) → Q v H) → r (.int i) (.int j) H Q) : OpR X g (rO (rc X cl) (pur2 (dI f))) := by
  refine opR_imp h fun x y H Q q => ?_
  obtain ⟨G, m, st, a, b, rl, ra, rb, p⟩ := q
  cases ra with
  | d ra =>
    cases rb with
    | d rb =>
      cases ra with
      | int i =>
        cases rb with
        | int j =>
          cases e : f i j with
          | none => simp [pur2, dI, e] at p; exact p.elim
          | some d =>
            refine k i j d H Q e fun v hv => ?_
            have p2 : PostO (rc X cl) (RepV (rc X cl)) G m H Q (some (.d d, st)) := by simpa [pur2, dI, e] using p
            exact p2 v H G m (Ext.refl _ _ _) rl (.d (hv G))
        | _ => exact p.elim
      | _ => cases rb <;> exact p.elim
    | _ => cases ra <;> exact p.elim
  | _ => cases rb <;> exact p.elim
def iSub (i j : Int) : Option D := some (.int (i - j))
def iMul (i j : Int) : Option D := if (-(2 ^ 64) < i ∧ i < 2 ^ 64) ∨ (-(2 ^ 64) < j ∧ j < 2 ^ 64) then some (.int (i * j)) else none
def iDiv (i j : Int) : Option D := if 0 < j ∧ j < 1073741824 then some (.int (i / j)) else none
def iMod (i j : Int) : Option D := if 0 < j then some (.int (i % j)) else none
def iPow (i j : Int) : Option D := if 0 ≤ j ∧ j ≤ 1000000 ∧ i.natAbs < 2 ^ 64 then some (.int (i ^ j.toNat)) else none
def iLt (i j : Int) : Option D := some (.bool (decide (i < j)))
def iLe (i j : Int) : Option D := some (.bool (decide (i ≤ j)))
def iGt (i j : Int) : Option D := some (.bool (decide (j < i)))
def iGe (i j : Int) : Option D := some (.bool (decide (j ≤ i)))
theorem o_sub : OpR X (binaryOp .Sub) (rO (rc X cl) (pur2 (dI iSub))) := opI_of op_sub fun i j d H Q e k => by cases e; exact ⟨i, j, rfl, rfl, k _ fun _ => .int _⟩
theorem o_div : OpR X (binaryOp .FloorDiv) (rO (rc X cl) (pur2 (dI iDiv))) := opI_of op_fdiv fun i j d H Q e k => by
  unfold iDiv at e; split at e
  · rename_i c; cases e; exact ⟨i, j, rfl, rfl, c, k _ fun _ => .int _⟩
  · cases e
theorem o_mod : OpR X (binaryOp .Mod) (rO (rc X cl) (pur2 (dI iMod))) := opI_of op_mod fun i j d H Q e k => by
  unfold iMod at e; split at e
  · rename_i c; cases e; exact ⟨i, j, rfl, rfl, c, k _ fun _ => .int _⟩
  · cases e
theorem o_pow : OpR X (binaryOp .Pow) (rO (rc X cl) (pur2 (dI iPow))) := opI_of op_pow fun i j d H Q e k => by
  unfold iPow at e; split at e
  · rename_i c; cases e; exact ⟨i, j, rfl, rfl, c, k _ fun _ => .int _⟩
  · cases e
theorem o_lt : OpR X (compareOp .Lt) (rO (rc X cl) (pur2 (dI iLt))) := opI_of op_lt fun i j d H Q e k => by cases e; exact ⟨i, j, rfl, rfl, k _ fun _ => .bl _⟩
theorem o_le : OpR X (compareOp .LtE) (rO (rc X cl) (pur2 (dI iLe))) := opI_of op_le fun i j d H Q e k => by cases e; exact ⟨i, j, rfl, rfl, k _ fun _ => .bl _⟩
theorem o_gt : OpR X (compareOp .Gt) (rO (rc X cl) (pur2 (dI iGt))) := opI_of op_gt fun i j d H Q e k => by cases e; exact ⟨i, j, rfl, rfl, k _ fun _ => .bl _⟩
theorem o_ge : OpR X (compareOp .GtE) (rO (rc X cl) (pur2 (dI iGe))) := opI_of op_ge fun i j d H Q e k => by cases e; exact ⟨i, j, rfl, rfl, k _ fun _ => .bl _⟩
end
end Mi
end

section
set_option maxRecDepth 100000
set_option autoImplicit false
namespace Mi
open PySem PySem.Spec L2
/-! ### dicts: of int keys, of tuple keys -/
inductive DC where
  | k (ps : List (Int × D))
  | n (ps : List (D × D))
def kInts : List (D × D) → Option (List (Int × D))
  | [] => some []
  | (.int i, x) :: r => (kInts r).map ((i, x) :: ·)
  | _ :: _ => none
def dcD : List (D × D) → Option DC
  | (.none, .none) :: ps => some (.n ps)
  | kvs => (kInts kvs).map .k
def dcOf (v : Val) (st : Sto) : Option DC := match v with
  | .d (.dict kvs) => dcD kvs
  | .r i => (match st[i]? with
    | some (.dK ps) => some (.k ps)
    | some (.dN ps) => some (.n ps)
    | some (.dL ps) => some (.n ps)
    | _ => none)
  | _ => none
def kFind (ps : List (Int × D)) (i : Int) : Option D := (ps.find? fun p => decide (p.1 = i)).map (·.2)
def nFind (ps : List (D × D)) (k : NestedKey) : Option D := (ps.find? fun p => decide (nk p.1 = some k)).map (·.2)
/-- what a dict holds at a key; none: nothing is said -/
def look (c : DC) (x : D) : Option (Option D) := match c, x with
  | .k ps, .int i => some (kFind ps i)
  | .n ps, .tuple xs => (match nk (.tuple xs) with
    | some k => if k.depth ≤ 8 then some (nFind ps k) else none
    | none => none)
  | _, _ => none
theorem kInts_of : ∀ ps : List (Int × D), kInts (ps.map fun p => (PyData.int p.1, p.2)) = some ps
  | [] => rfl
  | p :: ps => by simp [kInts, kInts_of ps]
theorem dcD_k (ps : List (Int × D)) : dcD (ps.map fun p => (PyData.int p.1, p.2)) = some (.k ps) := by
  have h := kInts_of ps
  cases ps with
  | nil => rfl
  | cons p ps =>
    rw [List.map_cons] at h ⊢
    show (kInts _).map DC.k = _
    rw [h]; rfl
section
variable {C : RC} {G : Hp} {m : List Addr} {H : Hp} {st : Sto}
/-- there, locked or frozen -/
def RdN (H : Hp) (a : Addr) (u : HO) : Prop := H a = some u ∨ (∃ o, H a = some (.frz o u)) ∨ ∃ o, H a = some (.frz o (.frz o u))
theorem RdN.ok {P : Program} {w : World} {H : Hp} {h : Heap} {a : Addr} {u : HO} (r : RdN H a u) (k : HOk P w H h) : ObjOk P w H h a u := by
  rcases r with z | ⟨o, z⟩ | ⟨o, z⟩
  · exact k _ _ z
  · exact (k _ _ z).2
  · exact (k _ _ z).2.2
/-- how it stands -/
def DCR (C : RC) (G H : Hp) (p : Addr) : DC → Prop
  | .k ps => ∃ vs, Rd H p (.dK (kz ps vs)) ∧ RepAll C G vs (ps.map (·.2))
  | .n ps => ∃ xs, RdN H p (DictN C.w p xs) ∧ (p == sysModules) = false ∧ RepN C G ps xs
theorem dc_of (rl : Rl C G m H st) {v : V} {b : Val} {c : DC} (r : RepV C G m v b) (h : dcOf b st = some c) : ∃ p, v = .ref p ∧ DCR C G H p c := by
  cases r with
  | d r =>
    cases r with
    | dK g e ra =>
      simp only [dcOf, dcD_k] at h
      cases h
      subst e
      exact ⟨_, rfl, _, .inr ⟨_, rl.sub _ _ g⟩, ra⟩
    | dN g e ra =>
      simp only [dcOf, dcD] at h
      cases h
      exact ⟨_, rfl, _, .inr (.inr ⟨_, rl.sub _ _ g⟩), e, ra⟩
    | non => cases h
    | bl => cases h
    | int => cases h
    | str => cases h
    | lst => cases h
    | tup => cases h
  | r q =>
    simp only [dcOf] at h
    split at h
    · rename_i ps e
      cases h
      obtain ⟨vs, h1, h2⟩ := rl.obj _ _ _ e q
      exact ⟨_, rfl, vs, .inl h1, h2⟩
    · rename_i ps e
      cases h
      obtain ⟨xs, h1, h2, h3⟩ := rl.obj _ _ _ e q
      exact ⟨_, rfl, xs, .inl h1, h2, h3⟩
    · rename_i ps e
      cases h
      obtain ⟨od, xs, h1, h2, h3⟩ := rl.obj _ _ _ e q
      exact ⟨_, rfl, xs, .inr (.inl ⟨od, rl.sub _ _ h1⟩), h2, h3⟩
    · cases h
  | s q => cases h
  | a q => cases h
  | c q _ => cases h
  | f => cases h
theorem kz_val : ∀ (ps : List (Int × D)) (vs : List V) (i : Int), RepAll C G vs (ps.map (·.2)) → (match kFind ps i with
    | none => valV (kz ps vs) (Sum.inl i) = none
    | some x => ∃ v, valV (kz ps vs) (Sum.inl i) = some v ∧ Rep C G v x)
  | [], vs, i, h => by simp [kFind, kz, valV]
  | p :: ps, _, i, h => by
    cases h with
    | cons h1 h2 =>
      rename_i v vs
      have ih := kz_val ps vs i h2
      by_cases e : p.1 = i
      · have e1 : kFind (p :: ps) i = some p.2 := by simp [kFind, List.find?_cons, e]
        rw [e1]
        exact ⟨v, by simp [kz, valV, List.find?_cons, e], h1⟩
      · have e1 : kFind (p :: ps) i = kFind ps i := by simp [kFind, List.find?_cons, e]
        have e2 : valV (kz (p :: ps) (v :: vs)) (Sum.inl i) = valV (kz ps vs) (Sum.inl i) := by
          simp [kz, valV, List.find?_cons, e]
        rw [e1, e2]
        exact ih
theorem n_val (k : NestedKey) : ∀ (ps : List (D × D)) (xs : List (NestedKey × Addr × Value)), RepN C G ps xs → (match nFind ps k with
    | none => atKey xs k = none
    | some x => ∃ b u v, atKey xs k = some (b, u) ∧ RelV v u ∧ Rep C G v x)
  | [], _, h => by cases h; simp [nFind, atKey]
  | p :: ps, _, h => by
    cases h with
    | cons h1 h2 h3 h4 h5 h6 =>
      rename_i k1 b v u xs
      have ih := n_val k ps xs h6
      by_cases e : k1 = k
      · subst e
        have e1 : nFind (p :: ps) k1 = some p.2 := by simp [nFind, List.find?_cons, h1]
        rw [e1]
        exact ⟨b, u, v, by simp [atKey, List.find?_cons], h4, h5⟩
      · have e1 : nFind (p :: ps) k = nFind ps k := by
          simp [nFind, List.find?_cons, h1, e]
        have e2 : atKey ((k1, b, u) :: xs) k = atKey xs k := by simp [atKey, List.find?_cons, e]
        rw [e1, e2]
        exact ih
end
section
variable {cl : Nat → Addr} {X : Cx} {pins : List (Addr × Obj)} {σ : L2.St} {G H : Hp} {s : Shared} {m : List Addr} {st : Sto}
mutual
theorem nis (I : Inv X pins σ H s) (sb : Sub G H) : ∀ (d : D) (v : V) (u : Value) (k : NestedKey), Rep (rc X cl) G v d → RelV v u → nk d = some k → NestedIs s.heap k u
  | .none, _, _, _, h, r, e => by cases h; cases r; cases e; exact .none
  | .bool b, _, _, _, h, r, e => by cases e
  | .int i, _, _, _, h, r, e => by cases h; obtain ⟨t, rfl⟩ := r; cases e; exact .int _ _
  | .str x, _, _, _, h, r, e => by cases h; obtain ⟨t, rfl⟩ := r; cases e; exact .text _ _
  | .list _, _, _, _, h, r, e => by cases e
  | .dict _, _, _, _, h, r, e => by cases e
  | .tuple ds, _, _, _, h, r, e => by
    cases h with
    | tup q ra =>
      cases r
      simp only [nk, Option.map_eq_some_iff] at e
      obtain ⟨ks, e, rfl⟩ := e
      obtain ⟨its, rv, ⟨o, ho, hc, n, hd⟩, _⟩ := I.tuple (SqT.sub sb q)
      exact .tup ho hc hd (nisAll I sb ds _ its ks ra rv e)
theorem nisAll (I : Inv X pins σ H s) (sb : Sub G H) : ∀ (ds : List D) (vs : List V) (us : List Value) (ks : List NestedKey), RepAll (rc X cl) G vs ds → Vals vs us → nk.nks ds = some ks → NestedAll s.heap ks us
  | [], _, _, _, h, r, e => by cases h; cases r; cases e; exact .nil
  | d :: ds, _, _, _, h, r, e => by
    cases h with
    | cons h1 h2 =>
      cases r with
      | cons r1 r2 =>
        simp only [nk.nks] at e
        split at e
        · rename_i k ks e1 e2
          cases e
          exact .cons (nis I sb d _ _ k h1 r1 e1) (nisAll I sb ds _ _ ks h2 r2 e2)
        · cases e
end
theorem nis_mem (I : Inv X pins σ H s) (sb : Sub G H) : ∀ {ps : List (D × D)} {xs : List (NestedKey × Addr × Value)}, RepN (rc X cl) G ps xs → ∀ x ∈ xs, (nestedKind X.prog X.w).is s.heap x.1 x.2.1
  | _, _, .nil, x, hx => absurd hx List.not_mem_nil
  | _, _, .cons h1 h2 h3 h4 h5 h6, x, hx => by
    rcases List.mem_cons.mp hx with e | hx
    · subst e; exact ⟨nis I sb _ _ _ _ h3 rfl h1, h2⟩
    · exact nis_mem I sb h6 x hx
theorem dictN_of (I : Inv X pins σ H s) {a : Addr} {xs : List (NestedKey × Addr × Value)} (sb : Sub G H) (h : RdN H a (DictN X.w a xs)) {ps : List (D × D)} (r : RepN (rc X cl) G ps xs) : s.heap.DictOfH (nestedKind X.prog X.w) a xs := by
  have q := h.ok I.hok
  obtain ⟨⟨o, es, ep, h1, h2, h3, h4, h5⟩, _, _⟩ := q
  exact ⟨o, es, ep, h1, h2, h3, h4, nis_mem I sb r, h5⟩
theorem room_n {A : Around} (hu : A.units + 200 < cLine) : (nestedKind X.prog X.w).room A.in1 := by
  show A.in1.units + 8 < cLine
  have : A.in1.units ≤ A.units + 1 := by
    show (Around.in1 A).units ≤ _
    unfold Around.in1
    first | exact Nat.le_refl _ | simp
  omega
/-- the key at the other side -/
theorem look_key (I : Inv X pins σ H s) (sb : Sub G H) {xs : List D} {v : V} {u : Value} {k : NestedKey} (r : Rep (rc X cl) G v (.tuple xs)) (ru : RelV v u) (hk : nk (.tuple xs) = some k) (hd : k.depth ≤ 8) : ∃ b, u = .ref b ∧ (nestedKind X.prog X.w).is s.heap k b := by
  have z := nis I sb _ _ _ _ r ru hk
  cases r with
  | tup q ra => cases ru; exact ⟨_, rfl, z, hd⟩
theorem d_inM {A : Around} {c : DC} {p : Addr} {x : D} {o : Option D} {v : V} {u : Value} {Q : Value → Shared → Prop} {E : Value → Shared → Prop} (hu : A.units + 200 < cLine) (I : Inv X pins σ H s) (sb : Sub G H) (dc : DCR (rc X cl) G H p c) (rx : Rep (rc X cl) G v x) (ru : RelV v u) (hl : look c x = some o)
    (h : ∀ s', Inv X pins σ H s' → Q (.bool o.isSome) s') : wpAny (model X.prog X.w) A (compareOp .In u (.ref p)) Q E s := by
  unfold look at hl
  split at hl
  · rename_i ps i
    cases hl
    cases rx
    obtain ⟨vs, rd, ra⟩ := dc
    have z := kz_val ps vs i ra
    refine d_in (a := p) (y := .int i) (o := valV (kz ps vs) (Sum.inl i)) (by omega) I (.inl ⟨_, .inl i, rd, rfl, rfl⟩) ru fun s' I' => ?_
    have : (valV (kz ps vs) (Sum.inl i)).isSome = (kFind ps i).isSome := by
      split at z
      · rename_i e; rw [e, z]; rfl
      · rename_i x e; obtain ⟨v, e2, _⟩ := z; rw [e, e2]; rfl
    rw [this]; exact h s' I'
  · rename_i ps xs
    split at hl
    · rename_i k hk
      split at hl
      · rename_i hd
        cases hl
        obtain ⟨ys, rd, ne, rn⟩ := dc
        obtain ⟨b, rfl, key⟩ := look_key I sb rx ru hk hd
        have z := n_val k ps ys rn
        refine wpAny_in_heap (knd := nestedKind X.prog X.w) (k := k) (xs := ys) (room_n hu) key ne (dictN_of I sb rd rn) ?_
        have : (atKey ys k).isSome = (nFind ps k).isSome := by
          split at z
          · rename_i e; rw [e, z]; rfl
          · rename_i x e; obtain ⟨b, u, v, e2, _⟩ := z; rw [e, e2]; rfl
        rw [this]
        exact h _ (I.tok _)
      · cases hl
    · cases hl
  · cases hl
theorem d_ninM {A : Around} {c : DC} {p : Addr} {x : D} {o : Option D} {v : V} {u : Value} {Q : Value → Shared → Prop} {E : Value → Shared → Prop} (hu : A.units + 200 < cLine) (I : Inv X pins σ H s) (sb : Sub G H) (dc : DCR (rc X cl) G H p c) (rx : Rep (rc X cl) G v x) (ru : RelV v u) (hl : look c x = some o)
    (h : ∀ s', Inv X pins σ H s' → Q (.bool (!o.isSome)) s') : wpAny (model X.prog X.w) A (compareOp .NotIn u (.ref p)) Q E s := by
  unfold look at hl
  split at hl
  · rename_i ps i
    cases hl
    cases rx
    obtain ⟨vs, rd, ra⟩ := dc
    have z := kz_val ps vs i ra
    refine d_notIn (a := p) (y := .int i) (o := valV (kz ps vs) (Sum.inl i)) (by omega) I (.inl ⟨_, .inl i, rd, rfl, rfl⟩) ru fun s' I' => ?_
    have : (valV (kz ps vs) (Sum.inl i)).isSome = (kFind ps i).isSome := by
      split at z
      · rename_i e; rw [e, z]; rfl
      · rename_i x e; obtain ⟨v, e2, _⟩ := z; rw [e, e2]; rfl
    rw [this]; exact h s' I'
  · rename_i ps xs
    split at hl
    · rename_i k hk
      split at hl
      · rename_i hd
        cases hl
        obtain ⟨ys, rd, ne, rn⟩ := dc
        obtain ⟨b, rfl, key⟩ := look_key I sb rx ru hk hd
        have z := n_val k ps ys rn
        refine notIn_keyed (knd := nestedKind X.prog X.w) (k := k) (kvs := pairsH ys) (room_n hu) key ne ⟨ys, dictN_of I sb rd rn, rfl⟩ ?_
        have : (valueAt (pairsH ys) k).isSome = (nFind ps k).isSome := by
          rw [valueAt_pairsH, Option.isSome_map]
          split at z
          · rename_i e; rw [e, z]; rfl
          · rename_i x e; obtain ⟨b, u, v, e2, _⟩ := z; rw [e, e2]; rfl
        rw [this]
        exact h _ (I.tok _)
      · cases hl
    · cases hl
  · cases hl
end
end Mi
end

section
set_option maxRecDepth 100000
set_option autoImplicit false
namespace Mi
open PySem PySem.Spec L2

/-! ### == and in, of data -/
def datOf (v : Val) (st : Sto) : Option D := match v with
  | .d x => some x
  | .r i => match st[i]? with
    | some (.lst xs) => some (.list xs)
    | _ => none
  | .s ns => some (.list (ns.map PyData.int))
  | .a _ _ => none
  | .c _ _ => none
  | .f _ => none
section
variable {C : RC} {G : Hp} {m : List Addr} {H : Hp} {st : Sto}
theorem dpAll_ints {K : PySem.W.Frag} : ∀ ns : List Int, DpAll K H (ns.map V.int) (ns.map PyData.int)
  | [] => .nil
  | _ :: r => .cons (.int _) (dpAll_ints r)
theorem dat_of (rl : Rl C G m H st) {v : V} {a : Val} {x : D} (r : RepV C G m v a) (h : datOf a st = some x) (hp : x.plain = true) : Dp C.K H v x := by
  cases r with
  | d r => cases h; exact Rep.dp rl.sub hp r
  | r q =>
    simp only [datOf] at h
    split at h
    · rename_i ys e
      cases h
      obtain ⟨vs, hv, ra⟩ := rl.obj _ _ _ e q
      exact .lst (SqL.of hv) (RepAll.dp rl.sub hp ra)
    · cases h
  | s q => cases h; exact .lst (SqL.sub rl.sub q) (dpAll_ints _)
  | a q => cases h
  | c q _ => cases h
  | f => cases h
end
def fits (x y : D) : Bool := x.plain && y.plain && decide (min x.depth y.depth ≤ 150)
def vEq (a b : Val) (st : Sto) : Option (Val × Sto) := match datOf a st, datOf b st with
  | some x, some y => if fits x y = true then some (.d (.bool (PyData.eqv x y)), st) else none
  | _, _ => none
def vNe (a b : Val) (st : Sto) : Option (Val × Sto) := match datOf a st, datOf b st with
  | some x, some y => if fits x y = true then some (.d (.bool (!PyData.eqv x y)), st) else none
  | _, _ => none
def fitsIn (xs : List D) (d : D) : Bool := PyData.plainAll xs && d.plain && decide (min (PyData.depthAll xs) d.depth ≤ 150)
def dIn (a b : Val) (f : Bool → Bool) (st : Sto) : Option (Val × Sto) := match a, dcOf b st with
  | .d x, some c => (look c x).map fun o => (.d (.bool (f o.isSome)), st)
  | _, _ => none
def vIn (a b : Val) (st : Sto) : Option (Val × Sto) := match datOf a st, sqOf b st with
  | some d, some xs => if fitsIn xs d = true then some (.d (.bool (xs.any fun y => PyData.eqv y d)), st) else none
  | _, _ => dIn a b id st
def vNin (a b : Val) (st : Sto) : Option (Val × Sto) := match datOf a st, sqOf b st with
  | some d, some xs => if fitsIn xs d = true then some (.d (.bool (!xs.any fun y => PyData.eqv y d)), st) else none
  | _, _ => dIn a b not st
theorem fits_is {x y : D} (h : fits x y = true) : x.plain = true ∧ y.plain = true ∧ min x.depth y.depth ≤ 150 := by
  unfold fits at h
  simp only [Bool.and_eq_true, decide_eq_true_eq] at h
  exact ⟨h.1.1, h.1.2, h.2⟩
theorem fitsIn_is {xs : List D} {y : D} (h : fitsIn xs y = true) : PyData.plainAll xs = true ∧ y.plain = true ∧ min (PyData.depthAll xs) y.depth ≤ 150 := by
  unfold fitsIn at h
  simp only [Bool.and_eq_true, decide_eq_true_eq] at h
  exact ⟨h.1.1, h.1.2, h.2⟩
section
variable {cl : Nat → Addr} {X : Cx}
theorem o_eq (hu : X.A.units + 200 < cLine) : OpR X (compareOp .Eq) (rO (rc X cl) vEq) := by
  intro pins s σ H x y v u Q I rx ry h
  obtain ⟨G, m, st, a, b, rl, ra, rb, p⟩ := h
  unfold vEq at p
  split at p
  · rename_i d e hd he
    split at p
    · rename_i hf
      obtain ⟨f1, f2, f3⟩ := fits_is hf
      obtain ⟨as, r1⟩ := Dp.reads I d x v (dat_of rl ra hd f1) rx
      obtain ⟨bs, r2⟩ := Dp.reads I e y u (dat_of rl rb he f2) ry
      exact SeqAt.eq_plain r1 r2 f1 f2 (by omega) ⟨.bl _, H, I, rfl, p _ H G m (Ext.refl _ _ _) rl (.d (.bl _))⟩
    · exact p.elim
  · exact p.elim
theorem o_ne (hu : X.A.units + 200 < cLine) : OpR X (compareOp .NotEq) (rO (rc X cl) vNe) := by
  intro pins s σ H x y v u Q I rx ry h
  obtain ⟨G, m, st, a, b, rl, ra, rb, p⟩ := h
  unfold vNe at p
  split at p
  · rename_i d e hd he
    split at p
    · rename_i hf
      obtain ⟨f1, f2, f3⟩ := fits_is hf
      obtain ⟨as, r1⟩ := Dp.reads I d x v (dat_of rl ra hd f1) rx
      obtain ⟨bs, r2⟩ := Dp.reads I e y u (dat_of rl rb he f2) ry
      exact SeqAt.ne_plain r1 r2 f1 f2 (by omega) ⟨.bl _, H, I, rfl, p _ H G m (Ext.refl _ _ _) rl (.d (.bl _))⟩
    · exact p.elim
  · exact p.elim
/-- a list or a tuple, read as data -/
theorem sq_reads {pins : List (Addr × Obj)} {s : Shared} {σ : L2.St} {H G : Hp} {m : List Addr} {st : Sto} {v : V} {u : Value} {b : Val} {xs : List D} (I : Inv X pins σ H s) (rl : Rl (rc X cl) G m H st) (r : RepV (rc X cl) G m v b) (ru : RelV v u) (h : sqOf b st = some xs) (hp : PyData.plainAll xs = true) :
    (∃ as, Reads s.heap u (.list xs) as) ∨ ∃ as, Reads s.heap u (.tuple xs) as := by
  obtain ⟨p, vs, rfl, k, ra⟩ := sq_of rl r h
  rcases k with k | k
  · exact .inl (Dp.reads I (.list xs) _ u (.lst (SqL.of k) (RepAll.dp rl.sub hp ra)) ru)
  · exact .inr (Dp.reads I (.tuple xs) _ u (.tup k (RepAll.dp rl.sub hp ra)) ru)
theorem o_in (hu : X.A.units + 200 < cLine) : OpR X (compareOp .In) (rO (rc X cl) vIn) := by
  intro pins s σ H x y v u Q I rx ry h
  obtain ⟨G, m, st, a, b, rl, ra, rb, p⟩ := h
  unfold vIn at p
  split at p
  · rename_i d xs hd he
    split at p
    · rename_i hf
      obtain ⟨f1, f2, f3⟩ := fitsIn_is hf
      obtain ⟨as, r1⟩ := Dp.reads I d x v (dat_of rl ra hd f2) rx
      rcases sq_reads I rl rb ry he f1 with ⟨bs, r2⟩ | ⟨bs, r2⟩
      · exact SeqAt.in_list_data r2 r1 f1 f2 (by omega) ⟨.bl _, H, I, rfl, p _ H G m (Ext.refl _ _ _) rl (.d (.bl _))⟩
      · exact SeqAt.in_tuple_data r2 r1 f1 f2 (by omega) ⟨.bl _, H, I, rfl, p _ H G m (Ext.refl _ _ _) rl (.d (.bl _))⟩
    · exact p.elim
  · unfold dIn at p
    split at p
    · rename_i x0 c0 hc0 hz0
      cases hl : look c0 x0 with
      | none => rw [hl] at p; exact p.elim
      | some o =>
        rw [hl] at p
        obtain ⟨q, rfl, dc⟩ := dc_of rl rb hc0
        cases ry
        cases ra with
        | d rx0 => exact d_inM hu I rl.sub dc rx0 rx hl fun s' I' => ⟨.bl _, H, I', rfl, p _ H G m (Ext.refl _ _ _) rl (.d (.bl _))⟩
    · exact p.elim
theorem o_nin (hu : X.A.units + 200 < cLine) : OpR X (compareOp .NotIn) (rO (rc X cl) vNin) := by
  intro pins s σ H x y v u Q I rx ry h
  obtain ⟨G, m, st, a, b, rl, ra, rb, p⟩ := h
  unfold vNin at p
  split at p
  · rename_i d xs hd he
    split at p
    · rename_i hf
      obtain ⟨f1, f2, f3⟩ := fitsIn_is hf
      obtain ⟨as, r1⟩ := Dp.reads I d x v (dat_of rl ra hd f2) rx
      rcases sq_reads I rl rb ry he f1 with ⟨bs, r2⟩ | ⟨bs, r2⟩
      · exact SeqAt.notIn_list_data r2 r1 f1 f2 (by omega) ⟨.bl _, H, I, rfl, p _ H G m (Ext.refl _ _ _) rl (.d (.bl _))⟩
      · exact SeqAt.notIn_tuple_data r2 r1 f1 f2 (by omega) ⟨.bl _, H, I, rfl, p _ H G m (Ext.refl _ _ _) rl (.d (.bl _))⟩
    · exact p.elim
  · unfold dIn at p
    split at p
    · rename_i x0 c0 hc0 hz0
      cases hl : look c0 x0 with
      | none => rw [hl] at p; exact p.elim
      | some o =>
        rw [hl] at p
        obtain ⟨q, rfl, dc⟩ := dc_of rl rb hc0
        cases ry
        cases ra with
        | d rx0 => exact d_ninM hu I rl.sub dc rx0 rx hl fun s' I' => ⟨.bl _, H, I', rfl, p _ H G m (Ext.refl _ _ _) rl (.d (.bl _))⟩
    · exact p.elim
/-! ### is -/
def isNon : Val → Bool
  | .d .none => true
  | _ => false
def vIsN (a b : Val) (st : Sto) : Option (Val × Sto) := match b with
  | .d .none => some (.d (.bool (isNon a)), st)
  | .d (.bool k) => (match a with
    | .d (.bool j) => some (.d (.bool (decide (j = k))), st)
    | _ => none)
  | _ => none
def vNotN (a b : Val) (st : Sto) : Option (Val × Sto) := match b with
  | .d .none => some (.d (.bool (!isNon a)), st)
  | .d (.bool k) => (match a with
    | .d (.bool j) => some (.d (.bool (!decide (j = k))), st)
    | _ => none)
  | _ => none
theorem isNon_eq {C : RC} {G : Hp} {m : List Addr} {v : V} {a : Val} (r : RepV C G m v a) : decide (v = .non) = isNon a := by
  cases r with
  | d r => cases r <;> simp [isNon]
  | r q => simp [isNon]
  | s q => simp [isNon]
  | a q => simp [isNon]
  | c q _ => simp [isNon]
  | f => simp [isNon]
theorem o_is : OpR X (compareOp .Is) (rO (rc X cl) vIsN) := by
  refine opR_imp (op_isN.or op_isBl) fun x y H Q h => ?_
  obtain ⟨G, m, st, a, b, rl, ra, rb, p⟩ := h
  unfold vIsN at p
  split at p
  · cases rb with
    | d rb => cases rb; exact .inl ⟨rfl, by rw [isNon_eq ra]; exact p _ H G m (Ext.refl _ _ _) rl (.d (.bl _))⟩
  · split at p
    · cases rb with
      | d rb =>
        cases rb
        cases ra with
        | d ra => cases ra; exact .inr ⟨_, _, rfl, rfl, p _ H G m (Ext.refl _ _ _) rl (.d (.bl _))⟩
    · exact p.elim
  · exact p.elim
theorem o_isnot : OpR X (compareOp .IsNot) (rO (rc X cl) vNotN) := by
  refine opR_imp (op_notN.or op_notBl) fun x y H Q h => ?_
  obtain ⟨G, m, st, a, b, rl, ra, rb, p⟩ := h
  unfold vNotN at p
  split at p
  · cases rb with
    | d rb => cases rb; exact .inl ⟨rfl, by rw [isNon_eq ra]; exact p _ H G m (Ext.refl _ _ _) rl (.d (.bl _))⟩
  · split at p
    · cases rb with
      | d rb =>
        cases rb
        cases ra with
        | d ra => cases ra; exact .inr ⟨_, _, rfl, rfl, p _ H G m (Ext.refl _ _ _) rl (.d (.bl _))⟩
    · exact p.elim
  · exact p.elim

/-! ### + and * -/
def small (n : Nat) : Bool := decide (n ≤ 1000000)
theorem small_is {n : Nat} (h : small n = true) : n ≤ sizeLine := by
  have h := of_decide_eq_true h
  rw [sizeLine_eq]; omega
def vAdd (a b : Val) (st : Sto) : Option (Val × Sto) := match a, b with
  | .d (.int i), .d (.int j) => some (.d (.int (i + j)), st)
  | .d (.str x), .d (.str y) => if small (x.length + y.length) = true then some (.d (.str (x ++ y)), st) else none
  | .d (.tuple xs), .d (.tuple ys) => if small (xs.length + ys.length) = true then some (.d (.tuple (xs ++ ys)), st) else none
  | a, b => match lsOf a st, lsOf b st with
    | some xs, some ys => if small (xs.length + ys.length) = true then some (.d (.list (xs ++ ys)), st) else none
    | _, _ => none
theorem o_add : OpR X (binaryOp .Add) (rO (rc X cl) vAdd) := by
  refine opR_imp (((op_add.or op_add_str).or op_catA).or op_cat) fun x y H Q h => ?_
  obtain ⟨G, m, st, a, b, rl, ra, rb, p⟩ := h
  unfold vAdd at p
  split at p
  · cases ra with
    | d ra =>
      cases ra
      cases rb with
      | d rb => cases rb; exact .inl (.inl (.inl ⟨_, _, rfl, rfl, p _ H G m (Ext.refl _ _ _) rl (.d (.int _))⟩))
  · split at p
    · rename_i hs
      cases ra with
      | d ra =>
        cases ra
        cases rb with
        | d rb => cases rb; exact .inl (.inl (.inr ⟨_, _, rfl, rfl, small_is hs, p _ H G m (Ext.refl _ _ _) rl (.d (.str _))⟩))
    · exact p.elim
  · rename_i xs ys
    split at p
    · rename_i hs
      cases ra with
      | d ra =>
        cases rb with
        | d rb =>
          cases ra with
          | tup qa sa =>
            cases rb with
            | tup qb sb =>
              refine .inl (.inr ⟨_, _, _, _, rfl, rfl, SqT.sub rl.sub qa, SqT.sub rl.sub qb, by rw [sa.length, sb.length]; exact small_is hs, fun e => ?_, fun e1 e2 => ?_, fun e1 e2 q hq => ?_⟩)
              · have z : xs = [] := List.eq_nil_of_length_eq_zero (by rw [← sa.length, e]; rfl)
                subst z
                exact p _ H G m (Ext.refl _ _ _) rl (.d (.tup qb sb))
              · have z : ys = [] := List.eq_nil_of_length_eq_zero (by rw [← sb.length, e2]; rfl)
                subst z
                refine p _ H G m (Ext.refl _ _ _) rl (.d ?_)
                rw [List.append_nil]; exact .tup qa sa
              · exact new_tup rl hq (sa.append sb) p
    · exact p.elim
  · split at p
    · rename_i xs ys hx hy
      split at p
      · rename_i hs
        obtain ⟨pa, va, rfl, ha, sa⟩ := ls_of rl ra hx
        obtain ⟨pb, vb, rfl, hb, sb⟩ := ls_of rl rb hy
        exact .inr ⟨pa, pb, va, vb, rfl, rfl, ha, hb, by rw [sa.length, sb.length]; exact small_is hs, fun q hq => new_lst rl hq (sa.append sb) p⟩
      · exact p.elim
    · exact p.elim
end
end Mi
end

section
set_option maxRecDepth 100000
set_option autoImplicit false
namespace L2
open PySem PySem.Spec PyProof.Rows
theorem tuple_mul1 (l : Addr) (items : Array Value) (n : Nat) (dd : Option Addr) (sl : Array (Option Value)) (u : Tok) :
    Meets (Builtin.«tuple.__mul__» ⟨[.ref l, .int 1 u], []⟩) (fun _ R s => s.heap.get? l = some { cls := .type "tuple", dict := dd, data := .seq items n, slots := sl } ∧ R (.ok (.ret (Value.ref l))) s) :=
  .of_wp fun prog w A R s h => by
    obtain ⟨hp, g, d, tk, os⟩ := s
    obtain ⟨hl, h⟩ := h
    have f1 := AutoSeq1.idx_int
    wp_walk using wpAny_loadPart' hl
    repeat (first
      | (refine wpAny_ite_false (decide_eq_false (by decide)) ?_; wp_walk using wpAny_loadPart' hl)
      | (refine wpAny_ite_true (decide_eq_true (by simp)) ?_; wp_walk using wpAny_loadPart' hl))
    exact ⟨_, rfl, h⟩
theorem op_rep1 {X : Cx} : OpR X (binaryOp .Mult) (fun x y H Q => ∃ l xs, x = .ref l ∧ y = .int 1 ∧ SqT X.K H l xs ∧ Q (.ref l) H) := by
  intro pins s σ H x y v u Q I rx ry h
  obtain ⟨l, xs, rfl, rfl, hT, q⟩ := h
  cases rx
  obtain ⟨t, rfl⟩ := ry
  obtain ⟨its, r, ⟨⟨cls, dd, data, sl⟩, ho, hc, n, hd⟩, hs⟩ := I.tuple hT
  simp only at hc hd
  subst hc hd
  exact wpAny_binaryOp_repeat_ref (T := "tuple") (U := "int") (by decide) ⟨_, ho, rfl⟩ (fun s' => typeIs_int s' 1 t) noFill_tuple_mul F.fills_int_mul F.slot_int_rmul repeat_tuple F.slot_int_index.lookup
    (call_meets F.slot_int_rmul (typeIs_int s 1 t) F.entry_int_rmul (F.args_int_rmul_2 _ _) (int_rmul_tuple 1 t l its.toArray n dd sl)
      ⟨ho, rfl, ⟨_, ho, rfl⟩, call_meets F.slot_tuple_mul ⟨_, ho, rfl⟩ F.entry_tuple_mul (F.args_tuple_mul_2 _ _) (tuple_mul1 l its.toArray n dd sl t) ⟨ho, ⟨.ref l, H, I, rfl, q⟩⟩⟩)
end L2
namespace Mi
open PySem PySem.Spec L2
def cut {α : Type} (xs : List α) (lo hi : Option Int) : List α := (xs.drop (HT.sIx xs.length 0 lo)).take (HT.sIx xs.length xs.length hi - HT.sIx xs.length 0 lo)
section
variable {C : RC} {G : Hp} {vs : List V} {ds : List D}
theorem RepAll.rep (h : RepAll C G vs ds) : ∀ n : Nat, RepAll C G (List.replicate n vs).flatten (List.replicate n ds).flatten
  | 0 => .nil
  | n + 1 => by
    rw [List.replicate_succ, List.replicate_succ, List.flatten_cons, List.flatten_cons]
    exact h.append (RepAll.rep h n)
theorem atI_rep (h : RepAll C G vs ds) {i : Int} {d : D} (e : atI ds i = some d) : ∃ v, atI vs i = some v ∧ Rep C G v d := by
  unfold atI at e ⊢
  rw [h.length]
  cases q : ixN ds.length i with
  | none => rw [q] at e; cases e
  | some j =>
    rw [q] at e
    exact h.get e
theorem cutV_rep (h : RepAll C G vs ds) (lo hi : Option Int) : RepAll C G (cutV vs lo hi) (cut ds lo hi) := by
  unfold cutV cut
  rw [h.length]
  exact (h.drop _).take _
end
def vMul (a b : Val) (st : Sto) : Option (Val × Sto) := match a, b with
  | .d (.int i), .d (.int j) => (iMul i j).map fun z => (.d z, st)
  | .d (.tuple xs), .d (.int k) => if k = 1 then some (.d (.tuple xs), st) else if xs ≠ [] ∧ 2 ≤ k ∧ k ≤ 1000 ∧ xs.length ≤ 1000 then some (.d (.tuple (List.replicate k.toNat xs).flatten), st) else none
  | a, .d (.int k) => match lsOf a st with
    | some xs => if 0 ≤ k ∧ k ≤ 1000 ∧ xs.length ≤ 1000 then some (.d (.list (List.replicate k.toNat xs).flatten), st) else none
    | none => none
  | _, _ => none
section
variable {cl : Nat → Addr} {X : Cx} {W : WX} {pos : Pos}
theorem o_mul : OpR X (binaryOp .Mult) (rO (rc X cl) vMul) := by
  refine opR_imp (((op_mul.or op_repT).or op_rep1).or op_rep) fun x y H Q h => ?_
  obtain ⟨G, m, st, a, b, rl, ra, rb, p⟩ := h
  unfold vMul at p
  split at p
  · rename_i i j
    cases ra with
    | d ra =>
      cases ra
      cases rb with
      | d rb =>
        cases rb
        unfold iMul at p
        split at p
        · rename_i c
          exact .inl (.inl (.inl ⟨_, _, rfl, rfl, c, p _ H G m (Ext.refl _ _ _) rl (.d (.int _))⟩))
        · exact p.elim
  · rename_i xs k
    cases rb with
    | d rb =>
      cases rb
      cases ra with
      | d ra =>
        cases ra with
        | tup qa sa =>
          split at p
          · rename_i hk
            subst hk
            exact .inl (.inr ⟨_, _, rfl, rfl, SqT.sub rl.sub qa, p _ H G m (Ext.refl _ _ _) rl (.d (.tup qa sa))⟩)
          · split at p
            · rename_i c
              obtain ⟨c1, c2, c3, c4⟩ := c
              refine .inl (.inl (.inr ⟨_, k, _, rfl, rfl, SqT.sub rl.sub qa, fun e => c1 (List.eq_nil_of_length_eq_zero (by rw [← sa.length, e]; rfl)), c2, c3, by rw [sa.length]; exact c4, fun q hq => new_tup rl hq (sa.rep _) p⟩))
            · exact p.elim
  · rename_i a' b' k n1 n2
    cases rb with
    | d rb =>
      cases rb
      split at p
      · rename_i xs hx
        split at p
        · rename_i c
          obtain ⟨c1, c2, c3⟩ := c
          obtain ⟨pa, va, rfl, ha, sa⟩ := ls_of rl ra hx
          refine .inr ⟨pa, k, va, rfl, rfl, ha, by omega, by omega, ?_, fun q hq => new_lst rl hq (sa.rep _) p⟩
          rw [sa.length, sizeLine_eq]
          have : xs.length * k.toNat ≤ 1000 * 1000 := Nat.mul_le_mul c3 (by omega)
          omega
        · exact p.elim
      · exact p.elim
  · exact p.elim

/-! ### subscripts -/
def vIx (a b : Val) (st : Sto) : Option (Val × Sto) := match b with
  | .d (.int i) => (match a with
    | .s ns => (atI ns i).map fun z => (.d (.int z), st)
    | a => match sqOf a st with
      | some xs => (atI xs i).map fun z => (.d z, st)
      | none => none)
  | _ => none
theorem ix_any : IxR X (rO (rc X cl) vIx) := by
  intro value slice pins s σ H x y v u Q I rx ry h hs
  refine ix_seq value slice pins s σ H x y v u Q I rx ry ?_ hs
  obtain ⟨G, m, st, a, b, rl, ra, rb, p⟩ := h
  unfold vIx at p
  split at p
  · rename_i i
    cases rb with
    | d rb =>
      cases rb
      split at p
      · rename_i ns
        cases ra with
        | s q =>
          cases e : atI ns i with
          | none => rw [e] at p; exact p.elim
          | some z =>
            rw [e] at p
            refine .inl ⟨_, _, i, .int z, rfl, rfl, SqL.sub rl.sub q, ?_, p _ H G m (Ext.refl _ _ _) rl (.d (.int _))⟩
            unfold atI at e ⊢
            rw [List.length_map]
            cases q : ixN ns.length i with
            | none => rw [q] at e; cases e
            | some j =>
              rw [q] at e
              simp only [Option.bind_some] at e ⊢
              rw [List.getElem?_map, e]; rfl
      · split at p
        · rename_i xs hx
          cases e : atI xs i with
          | none => rw [e] at p; exact p.elim
          | some z =>
            rw [e] at p
            obtain ⟨pa, va, rfl, k, sa⟩ := sq_of rl ra hx
            obtain ⟨w, hw, rw'⟩ := atI_rep sa e
            rcases k with k | k
            · exact .inl ⟨pa, va, i, w, rfl, rfl, SqL.of k, hw, p _ H G m (Ext.refl _ _ _) rl (.d rw')⟩
            · exact .inr (.inl ⟨pa, va, i, w, rfl, rfl, k, hw, p _ H G m (Ext.refl _ _ _) rl (.d rw')⟩)
        · exact p.elim
  · exact p.elim
variable {a b : Expr} {ea eb : EE}
theorem se_ix (ha : SE cl X W a ea) (hb : SE cl X W b eb) (hs : PlainIx b) : SE cl X W (.Subscript a b pos) (eOp vIx ea eb) := (pe_ix ix_any ha hb hs).impM fun _ _ _ h => tOp_of h
/-! slices -/
abbrev EO := Ev → Sto → R (Option Int)
def oNone : EO := fun _ st => .ok none st
def oSome (a : EE) : EO := fun env st => (a env st).bind fun v s => match v with
  | .d (.int i) => .ok (some i) s
  | _ => .bad
def relO (_ : Hp) (_ : List Addr) (x : Option Int) (v : Option Int) : Prop := x = v
def tO (C : RC) (W : WX) (ev : EO) : TO := fun σ H Q => ∃ G m env st, Rl C G m H st ∧ EnvR C G m σ env ∧ Post C relO G m H Q (fun c d H' => W c d σ H') (ev env st)
abbrev SO (cl : Nat → Addr) (X : Cx) (W : WX) (e : Option Expr) (ev : EO) : Prop := PO X e (tO (rc X cl) W ev)
theorem _root_.L2.PO.impM {e : Option Expr} {t t' : TO} (h : PO X e t) (i : ∀ σ H Q, t' σ H Q → t σ H Q) : PO X e t' := ⟨fun pins s σ H Q I q => h.run pins s σ H Q I (i _ _ _ q)⟩
theorem so_none : SO cl X W none oNone := po_none.impM fun σ H Q h => by
  obtain ⟨G, m, env, st, rl, en, p⟩ := h
  exact p none H G m (Ext.refl _ _ _) rl rfl
theorem so_some (ha : SE cl X W a ea) : SO cl X W (some a) (oSome ea) := (po_some ha).impM fun σ H Q h => by
  obtain ⟨G, m, env, st, rl, en, p⟩ := h
  refine ⟨G, m, env, st, rl, en, Post.bindE p fun v s1 x H1 G1 m1 _ e1 rl1 r1 p1 => ?_⟩
  split at p1
  · rename_i i _
    cases r1 with
    | d r => cases r; exact ⟨i, rfl, p1 _ H1 G1 m1 (Ext.refl _ _ _) rl1 rfl⟩
  · exact p1.elim
def vSl (a : Val) (lo hi : Option Int) (st : Sto) : Option (Val × Sto) := match a with
  | .d (.tuple xs) => some (.d (.tuple (cut xs lo hi)), st)
  | a => match lsOf a st with
    | some xs => some (.d (.list (cut xs lo hi)), st)
    | none => none
def eSl (a : EE) (lo hi : EO) : EE := fun env st => (a env st).bind fun x s1 => (lo env s1).bind fun l s2 => (hi env s2).bind fun h s3 => R.of (vSl x l h s3)
theorem cut_whole {α : Type} {xs : List α} {lo hi : Option Int} (h : HT.sIx xs.length 0 lo = 0 ∧ HT.sIx xs.length xs.length hi = xs.length) : cut xs lo hi = xs := by
  unfold cut
  rw [h.1, h.2]
  simp
def rSA (C : RC) : V → Option Int → Option Int → Hp → VK → Prop := fun x lo hi H Q => ∃ G m st a, Rl C G m H st ∧ RepV C G m x a ∧ PostO C (RepV C) G m H Q (vSl a lo hi st)
theorem sl_any : SlR X (rSA (rc X cl)) := by
  intro pins s σ H x v vl vu lo hi sl Q I rx hs pl pu h
  refine (sl_tupA.or sl_list) pins s σ H x v vl vu lo hi sl Q I rx hs pl pu ?_
  obtain ⟨G, m, st, a, rl, ra, p⟩ := h
  unfold vSl at p
  split at p
  · cases ra with
    | d ra =>
      cases ra with
      | tup qa sa =>
        refine .inl ⟨_, _, rfl, SqT.sub rl.sub qa, fun e => ?_, fun e q hq => new_tup rl hq (cutV_rep sa lo hi) p⟩
        refine p _ H G m (Ext.refl _ _ _) rl (.d ?_)
        rw [sa.length] at e
        rw [cut_whole e]; exact .tup qa sa
  · split at p
    · rename_i xs hx
      obtain ⟨pa, va, rfl, ha, sa⟩ := ls_of rl ra hx
      exact .inr ⟨pa, va, rfl, SqL.of ha, fun q hq => new_lst rl hq (cutV_rep sa lo hi) p⟩
    · exact p.elim
theorem se_slice {lo hi : Option Expr} {p2 : Pos} {el eh : EO} (ha : SE cl X W a ea) (hl : SO cl X W lo el) (hh : SO cl X W hi eh) : SE cl X W (.Subscript a (.Slice lo hi none p2) pos) (eSl ea el eh) := (pe_slice sl_any ha hl hh).impM fun σ H Q h => by
  obtain ⟨G, m, env, st, rl, en, p⟩ := h
  refine ⟨G, m, env, st, rl, en, Post.bindE p fun v s1 x H1 G1 m1 _ e1 rl1 r1 p1 => ⟨G1, m1, env, s1, rl1, en.ext e1, Post.bindE p1 fun l s2 y H2 G2 m2 _ e2 rl2 r2 p2 => ⟨G2, m2, env, s2, rl2, (en.ext e1).ext e2, Post.bindE p2 fun h s3 z H3 G3 m3 _ e3 rl3 r3 p3 => ?_⟩⟩⟩
  cases (show y = l from r2)
  cases (show z = h from r3)
  exact ⟨G3, m3, s3, v, rl3, (r1.ext e2).ext e3, p3.of⟩

/-! ### displays -/
/-- a value that goes into a tuple, a list: a mutable list is given up -/
def toD (v : Val) (st : Sto) : Option (D × Sto) := match v with
  | .d x => some (x, st)
  | .r i => match st[i]? with
    | some (.lst xs) => some (.list xs, st.set i .gone)
    | _ => none
  | .s _ => none
  | .a _ _ => none
  | .c _ _ => none
  | .f _ => none
def toDs : List Val → Sto → Option (List D × Sto)
  | [], st => some ([], st)
  | v :: vs, st => match toD v st with
    | some (x, s1) => (match toDs vs s1 with
      | some (xs, s2) => some (x :: xs, s2)
      | none => none)
    | none => none
theorem toD_rep {C : RC} {G : Hp} {m : List Addr} {H : Hp} {st st' : Sto} {v : V} {a : Val} {x : D} (rl : Rl C G m H st) (r : RepV C G m v a) (h : toD a st = some (x, st')) : ∃ G', Rl C G' m H st' ∧ Ext G m H G' m H ∧ Rep C G' v x := by
  cases r with
  | d r => cases h; exact ⟨G, rl, Ext.refl _ _ _, r⟩
  | r q =>
    simp only [toD] at h
    split at h
    · rename_i xs e
      cases h
      exact rl.freeze q e
    · cases h
  | s q => cases h
  | a q => cases h
  | c q _ => cases h
  | f => cases h
theorem toDs_rep {C : RC} {m : List Addr} {H : Hp} : ∀ {as : List Val} {vs : List V} {xs : List D} {G : Hp} {st st' : Sto}, Rl C G m H st → RepVs C G m vs as → toDs as st = some (xs, st') → ∃ G', Rl C G' m H st' ∧ Ext G m H G' m H ∧ RepAll C G' vs xs
  | [], _, _, G, st, st', rl, r, h => by
    cases r
    cases h
    exact ⟨G, rl, Ext.refl _ _ _, .nil⟩
  | a :: as, _, _, G, st, st', rl, r, h => by
    cases r with
    | cons r1 r2 =>
      simp only [toDs] at h
      split at h
      · rename_i x s1 e1
        split at h
        · rename_i ys s2 e2
          cases h
          obtain ⟨G1, rl1, x1, q1⟩ := toD_rep rl r1 e1
          obtain ⟨G2, rl2, x2, q2⟩ := toDs_rep rl1 (r2.ext x1) e2
          exact ⟨G2, rl2, x1.trans x2, .cons (q1.sub x2.sub) q2⟩
        · cases h
      · cases h
def eTup (a : EA) : EE := fun env st => (a env st).bind fun vs s => match toDs vs s with
  | some (xs, s2) => if small xs.length = true then .ok (.d (.tuple xs)) s2 else .bad
  | none => .bad
def eLst (a : EA) : EE := fun env st => (a env st).bind fun vs s => match toDs vs s with
  | some (xs, s2) => if small xs.length = true then .ok (.d (.list xs)) s2 else .bad
  | none => .bad
/-- one that may be changed -/
def eLstR (a : EA) : EE := fun env st => (a env st).bind fun vs s => match toDs vs s with
  | some (xs, s2) => if small xs.length = true then .ok (.r s2.length) (s2 ++ [.lst xs]) else .bad
  | none => .bad
variable {es : List Expr} {er : EA}
theorem se_tup {k : Nat} (h : SA cl X W es er) : SE cl X W (.Tuple es k pos) (eTup er) := (pe_tup h).impM fun σ H Q h => by
  obtain ⟨G, m, env, st, rl, en, p⟩ := h
  refine ⟨G, m, env, st, rl, en, Post.bindE p fun v s1 x H1 G1 m1 _ e1 rl1 r1 p1 => ?_⟩
  split at p1
  · rename_i xs s2 e
    obtain ⟨G2, rl2, x2, q2⟩ := toDs_rep rl1 r1 e
    split at p1
    · rename_i hs
      exact ⟨by rw [q2.length]; exact small_is hs, fun q hq => new_tup rl2 hq q2 fun x H' G' m' ex => p1 x H' G' m' (x2.trans ex)⟩
    · exact p1.elim
  · exact p1.elim
theorem se_lst (h : SA cl X W es er) : SE cl X W (.List es pos) (eLst er) := (pe_lst h).impM fun σ H Q h => by
  obtain ⟨G, m, env, st, rl, en, p⟩ := h
  refine ⟨G, m, env, st, rl, en, Post.bindE p fun v s1 x H1 G1 m1 _ e1 rl1 r1 p1 => ?_⟩
  split at p1
  · rename_i xs s2 e
    obtain ⟨G2, rl2, x2, q2⟩ := toDs_rep rl1 r1 e
    split at p1
    · rename_i hs
      exact ⟨by rw [q2.length]; exact small_is hs, fun q hq => new_lst rl2 hq q2 fun x H' G' m' ex => p1 x H' G' m' (x2.trans ex)⟩
    · exact p1.elim
  · exact p1.elim
theorem se_lstR (h : SA cl X W es er) : SE cl X W (.List es pos) (eLstR er) := (pe_lst h).impM fun σ H Q h => by
  obtain ⟨G, m, env, st, rl, en, p⟩ := h
  refine ⟨G, m, env, st, rl, en, Post.bindE p fun v s1 x H1 G1 m1 _ e1 rl1 r1 p1 => ?_⟩
  split at p1
  · rename_i xs s2 e
    obtain ⟨G2, rl2, x2, q2⟩ := toDs_rep rl1 r1 e
    split at p1
    · rename_i hs
      exact ⟨by rw [q2.length]; exact small_is hs, fun q hq => new_ref rl2 hq q2 fun x H' G' m' ex => p1 x H' G' m' (x2.trans ex)⟩
    · exact p1.elim
  · exact p1.elim
end
end Mi
end

section
set_option maxRecDepth 100000
set_option autoImplicit false
namespace Mi
open PySem PySem.Spec L2

/-! ### calls of built-ins -/
abbrev BF := List Val → Sto → Option (Val × Sto)
def eCB (f : BF) (a : EA) : EE := fun env st => (a env st).bind fun vs s => R.of (f vs s)
def rC (C : RC) (f : BF) : List V → Hp → VK → Prop := fun xs H Q => ∃ G m st as, Rl C G m H st ∧ RepVs C G m xs as ∧ PostO C (RepV C) G m H Q (f as st)
theorem tCB_of {C : RC} {W : WX} {f : BF} {a : EA} {σ : L2.St} {H : Hp} {Q : VK} (h : tE C W (eCB f a) σ H Q) : tCB (rC C f) (tA C W a) σ H Q := by
  obtain ⟨G, m, env, st, rl, en, p⟩ := h
  exact ⟨G, m, env, st, rl, en, Post.bindE p fun v s1 x H1 G1 m1 _ e1 rl1 r1 p1 => ⟨G1, m1, s1, v, rl1, r1, p1.of⟩⟩
section
variable {cl : Nat → Addr} {X : Cx} {W : WX} {pos p : Pos} {a : Expr} {es : List Expr} {er : EA} {ea : EE} {x : Str} {f : BF}
theorem se_callB {id : String} (hc : CallR X (.builtin id) (rC (rc X cl) f)) (hg : Gl X x) (hm : X.mg x = none) (hv : bootBuiltins x = some (.builtin id)) (ha : SA cl X W (a :: es) er) (hn : x ≠ "__name__" := by decide) (hdb : (x == ("__debug__" : Str)) = false := by decide)
    (he : starEach (a :: es) X.env = (false, eval a X.env) :: starEach es X.env := by rfl) (hpl : (backTo pos (starEach es X.env)).any (·.1) = false := by rfl) : SE cl X W (.Call (.Name x p) (a :: es) [] pos) (eCB f er) :=
  (pe_callB hc hg hm hv ha hn hdb he hpl).impM fun _ _ _ h => tCB_of h
theorem se_callTy {T : String} (hc : CallR X (.type T) (rC (rc X cl) f)) (hg : Gl X x) (hm : X.mg x = none) (hv : bootBuiltins x = some (.type T)) (ha : SA cl X W (a :: es) er) (hn : x ≠ "__name__" := by decide) (hdb : (x == ("__debug__" : Str)) = false := by decide)
    (he : starEach (a :: es) X.env = (false, eval a X.env) :: starEach es X.env := by rfl) (hpl : (backTo pos (starEach es X.env)).any (·.1) = false := by rfl) : SE cl X W (.Call (.Name x p) (a :: es) [] pos) (eCB f er) :=
  (pe_callTy hc hg hm hv ha hn hdb he hpl).impM fun _ _ _ h => tCB_of h
theorem repVs1 {C : RC} {G : Hp} {m : List Addr} {xs : List V} {a : Val} (r : RepVs C G m xs [a]) : ∃ x, xs = [x] ∧ RepV C G m x a := by
  cases r with
  | cons r1 r2 => cases r2; exact ⟨_, rfl, r1⟩
theorem repVs2 {C : RC} {G : Hp} {m : List Addr} {xs : List V} {a b : Val} (r : RepVs C G m xs [a, b]) : ∃ x y, xs = [x, y] ∧ RepV C G m x a ∧ RepV C G m y b := by
  cases r with
  | cons r1 r2 =>
    obtain ⟨y, rfl, r3⟩ := repVs1 r2
    exact ⟨_, _, rfl, r1, r3⟩
/-! len -/
def lenOf (a : Val) (st : Sto) : Option Nat := match a with
  | .s ns => some ns.length
  | a => (sqOf a st).map List.length
def bLen : BF := fun as st => match as with
  | [a] => (lenOf a st).map fun (n : Nat) => (Val.d (.int (n : Int)), st)
  | _ => none
theorem c_len : CallR X (.builtin "len") (rC (rc X cl) bLen) := callR_imp call_len_seq fun xs H Q h => by
  obtain ⟨G, m, st, as, rl, ra, p⟩ := h
  unfold bLen at p
  split at p
  · obtain ⟨v, rfl, rv⟩ := repVs1 ra
    rename_i a
    cases e : lenOf a st with
    | none => rw [e] at p; exact p.elim
    | some n =>
      rw [e] at p
      unfold lenOf at e
      split at e
      · cases e
        cases rv with
        | s q => exact ⟨_, _, rfl, .inl (SqL.sub rl.sub q), by rw [List.length_map]; exact p _ H G m (Ext.refl _ _ _) rl (.d (.int _))⟩
      · cases e2 : sqOf a st with
        | none => rw [e2] at e; cases e
        | some ys =>
          rw [e2] at e
          cases e
          obtain ⟨q, vs, rfl, k, sa⟩ := sq_of rl rv e2
          rcases k with k | k
          · exact ⟨q, vs, rfl, .inl (SqL.of k), by rw [sa.length]; exact p _ H G m (Ext.refl _ _ _) rl (.d (.int _))⟩
          · exact ⟨q, vs, rfl, .inr k, by rw [sa.length]; exact p _ H G m (Ext.refl _ _ _) rl (.d (.int _))⟩
  · exact p.elim
/-! tuple, list -/
def bTuple : BF := fun as st => match as with
  | [a] => (sqOf a st).map fun xs => (.d (.tuple xs), st)
  | _ => none
theorem c_tuple : CallR X (.type "tuple") (rC (rc X cl) bTuple) := callR_imp call_tuple_of fun xs H Q h => by
  obtain ⟨G, m, st, as, rl, ra, p⟩ := h
  unfold bTuple at p
  split at p
  · obtain ⟨v, rfl, rv⟩ := repVs1 ra
    rename_i a
    cases e2 : sqOf a st with
    | none => rw [e2] at p; exact p.elim
    | some ys =>
      rw [e2] at p
      have e3 := e2
      unfold sqOf at e3
      split at e3
      · cases e3
        cases rv with
        | d r =>
          cases r with
          | tup g ra => exact ⟨_, _, rfl, .inr ⟨SqT.sub rl.sub g, p _ H G m (Ext.refl _ _ _) rl (.d (.tup g ra))⟩⟩
      · obtain ⟨q, vs, rfl, k, sa⟩ := ls_of rl rv e3
        exact ⟨q, vs, rfl, .inl ⟨SqL.of k, fun l hl => new_tup rl hl sa p⟩⟩
  · exact p.elim
/-! all, any, max, sum, min -/
def bAll : BF := fun as st => match as with
  | [a] => (match lsOf a st with
    | some xs => (boolsOf xs).map fun bs => (.d (.bool (bs.all id)), st)
    | none => none)
  | _ => none
theorem c_all (hc : X.calm = true) : CallR X (.builtin "all") (rC (rc X cl) bAll) := callR_imp (cr_all hc) fun xs H Q h => by
  obtain ⟨G, m, st, as, rl, ra, p⟩ := h
  unfold bAll at p
  split at p
  · obtain ⟨v, rfl, rv⟩ := repVs1 ra
    split at p
    · rename_i ys e
      cases e2 : boolsOf ys with
      | none => rw [e2] at p; exact p.elim
      | some bs =>
        rw [e2] at p
        obtain ⟨q, vs, rfl, k, sa⟩ := ls_of rl rv e
        rw [boolsOf_eq e2] at sa
        rw [sa.bools] at k
        exact ⟨q, bs, rfl, SqL.of k, p _ H G m (Ext.refl _ _ _) rl (.d (.bl _))⟩
    · exact p.elim
  · exact p.elim
def maxI : Int → List Int → Int
  | a, [] => a
  | a, b :: r => maxI (if a < b then b else a) r
theorem maxI_spec : ∀ (r : List Int) (a m : Int), m ∈ a :: r → (∀ y ∈ a :: r, y ≤ m) → maxI a r = m
  | [], a, m, h, _ => by simp at h; exact h.symm
  | b :: r, a, m, h, k => by
    show maxI (if a < b then b else a) r = m
    have ha := k a (by simp)
    have hb := k b (by simp)
    refine maxI_spec r _ m ?_ fun y hy => ?_
    · rcases List.mem_cons.mp h with e | h
      · by_cases q : a < b
        · omega
        · rw [if_neg q, e]; exact List.mem_cons_self
      · rcases List.mem_cons.mp h with e | h
        · by_cases q : a < b
          · rw [if_pos q, e]; exact List.mem_cons_self
          · rw [if_neg q]
            have : m = a := by omega
            rw [this]; exact List.mem_cons_self
        · exact List.mem_cons_of_mem _ h
    · rcases List.mem_cons.mp hy with e | hy
      · rw [e]; split <;> assumption
      · exact k y (by simp [hy])
def bMax : BF := fun as st => match as with
  | [a] => (match lsOf a st with
    | some xs => (match intsOf xs with
      | some (b :: bs) => some (.d (.int (maxI b bs)), st)
      | _ => none)
    | none => none)
  | _ => none
theorem c_max (hc : X.calm = true) : CallR X (.builtin "max") (rC (rc X cl) bMax) := callR_imp (cr_max hc) fun xs H Q h => by
  obtain ⟨G, m, st, as, rl, ra, p⟩ := h
  unfold bMax at p
  split at p
  · obtain ⟨v, rfl, rv⟩ := repVs1 ra
    split at p
    · rename_i ys e
      split at p
      · rename_i b bs e2
        obtain ⟨q, vs, rfl, k, sa⟩ := ls_of rl rv e
        rw [intsOf_eq e2] at sa
        rw [sa.ints] at k
        refine ⟨q, b :: bs, rfl, SqL.of k, by simp, fun z h1 h2 => ?_⟩
        rw [← maxI_spec bs b z h1 h2]
        exact p _ H G m (Ext.refl _ _ _) rl (.d (.int _))
      · exact p.elim
    · exact p.elim
  · exact p.elim
def bMin : BF := fun as st => match as with
  | [.d (.int i), .d (.int j)] => some (.d (.int (if j < i then j else i)), st)
  | _ => none
theorem c_min (hc : X.calm = true) : CallR X (.builtin "min") (rC (rc X cl) bMin) := callR_imp (call_min2 hc) fun xs H Q h => by
  obtain ⟨G, m, st, as, rl, ra, p⟩ := h
  unfold bMin at p
  split at p
  · obtain ⟨v, u, rfl, rv, ru⟩ := repVs2 ra
    cases rv with
    | d rv =>
      cases rv
      cases ru with
      | d ru => cases ru; exact ⟨_, _, rfl, p _ H G m (Ext.refl _ _ _) rl (.d (.int _))⟩
  · exact p.elim
/-! isinstance(x, a built-in class) -/
def tyOf (a : Val) (st : Sto) : Option String := match a with
  | .d .none => some "NoneType"
  | .d (.bool _) => some "bool"
  | .d (.int _) => some "int"
  | .d (.str _) => some "str"
  | .d (.list _) => some "list"
  | .d (.tuple _) => some "tuple"
  | .r i => (match st[i]? with
    | some (.lst _) => some "list"
    | _ => none)
  | _ => none
theorem tyX_tup {K : PySem.W.Frag} {H : Hp} {q : Addr} {xs : List V} (h : SqT K H q xs) : TyX K H (.ref q) (.type "tuple") := by
  rcases h with (h | ⟨o, h⟩) | ⟨o, its, n, h, hc, _⟩
  · exact .base (.tup h)
  · exact .fTuple h
  · exact .kTuple h hc
theorem ty_of {C : RC} {G : Hp} {m : List Addr} {H : Hp} {st : Sto} {v : V} {a : Val} {T : String} (rl : Rl C G m H st) (r : RepV C G m v a) (h : tyOf a st = some T) : TyX C.K H v (.type T) := by
  cases r with
  | d r =>
    cases r with
    | non => cases h; exact .base .non
    | bl b => cases h; exact .base (.bl b)
    | int b => cases h; exact .base (.int b)
    | str b => cases h; exact .base (.str b)
    | lst g ra => cases h; exact .base (.lst (rl.sub _ _ g))
    | tup g ra => cases h; exact tyX_tup (SqT.sub rl.sub g)
    | dK => cases h
    | dN => cases h
  | r q =>
    simp only [tyOf] at h
    split at h
    · rename_i ys e
      cases h
      obtain ⟨vs, hv, ra⟩ := rl.obj _ _ _ e q
      exact .base (.lst hv)
    · cases h
  | s q => cases h
  | a q => cases h
  | c q _ => cases h
  | f => cases h
def eIsi (T : String) (a : EE) : EE := fun env st => (a env st).bind fun v s => match tyOf v s with
  | some t => (match kitB t T with
    | some b => .ok (.d (.bool b)) s
    | none => .bad)
  | none => .bad
theorem se_isi {T : String} {y : Str} {p2 : Pos} (ha : SE cl X W a ea) (hg : Gl X "isinstance") (hm : X.mg "isinstance" = none) (hgT : Gl X y) (hmT : X.mg y = none) (hvT : bootBuiltins y = some (.type T)) (hn : y ≠ "__name__" := by decide) (hdb : (y == ("__debug__" : Str)) = false := by decide)
    (he : starEach [a, .Name y p2] X.env = (false, eval a X.env) :: starEach [.Name y p2] X.env := by rfl) (he2 : starEach [.Name y p2] X.env = (false, eval (.Name y p2) X.env) :: starEach [] X.env := by rfl) (hpl : (backTo pos (starEach [.Name y p2] X.env)).any (·.1) = false := by rfl) :
    SE cl X W (.Call (.Name "isinstance" p) [a, .Name y p2] [] pos) (eIsi T ea) :=
  (pe_callB call_isi hg hm (by decide +kernel) (pa_cons ha (pa_cons (pe_bltn (v := .ty T) hgT hmT hvT rfl hn hdb) pa_nil he2) he) (by decide) (by decide) he hpl).impM fun σ H Q h => by
  obtain ⟨G, m, env, st, rl, en, p⟩ := h
  refine ⟨G, m, env, st, rl, en, Post.bindE p fun v s1 x H1 G1 m1 _ e1 rl1 r1 p1 => ?_⟩
  split at p1
  · rename_i t et
    split at p1
    · rename_i b eb
      exact ⟨x, .ty T, .type t, .type T, b, rfl, .ty T, ty_of rl1 r1 et, kit_ty eb, p1 _ H1 G1 m1 (Ext.refl _ _ _) rl1 (.d (.bl _))⟩
    · exact p1.elim
  · exact p1.elim
end
end Mi
end

section
set_option maxRecDepth 100000
set_option autoImplicit false
namespace Mi
open PySem PySem.Spec L2

/-! ### defs -/
abbrev FN := List Val → Sto → R Val
def spF (C : RC) (n : Nat) (f : FN) : Sp := fun vs H Q E => ∃ G m st as, Rl C G m H st ∧ RepVs C G m vs as ∧ as.length = n ∧ Post C (RepV C) G m H Q E (f as st)
section
variable {cl : Nat → Addr} {X : Cx} {W : WX} {pos p : Pos} {a : Expr} {es : List Expr} {er : EA} {ea : EE} {x : Str} {k n : Nat} {f : FN} {fa : Addr} {fd : FuncData} {ps : List Str}
/-- at a def's end: what it made of its own is given up -/
def insOk (n : Nat) : Sto → Bool
  | [] => true
  | .ins _ fs :: r => (fs.all fun q => match q.2 with
    | .r i => decide (i < n)
    | .c _ _ => false
    | _ => true) && insOk n r
  | _ :: r => insOk n r
def fin (n : Nat) (v : Val) (st : Sto) : R Val := if insOk n (st.take n) = true then (match v with
    | .d x => .ok (.d x) (st.take n)
    | .s ns => .ok (.s ns) (st.take n)
    | .a _ _ => .bad
    | .c _ _ => .bad
    | .f _ => .bad
    | .r i => if i < n then .ok (.r i) (st.take n) else match st[i]? with
      | some (.lst xs) => .ok (.d (.list xs)) (st.take n)
      | _ => .bad) else .bad
def runF (N np : Nat) (ev : ES) : FN := fun as st => if as.length = np then (match ev (as.map some ++ List.replicate (N - np) none) st with
    | .ok (.nx _) s => fin st.length (.d .none) s
    | .ok (.rt v) s => fin st.length v s
    | .ok (.ex e _) s => if insOk st.length (s.take st.length) = true then .exc e (s.take st.length) else .bad
    | _ => .bad) else .bad
theorem insOk_mem : ∀ {n : Nat} {st : Sto}, insOk n st = true → ∀ {i c : Nat} {fs : List (Str × Val)}, st[i]? = some (.ins c fs) → ∀ q ∈ fs, ∀ j, q.2 = .r j → j < n
  | n, [], _, i, c, fs, e, q, hq, j, ej => by simp at e
  | n, o :: r, h, i, c, fs, e, q, hq, j, ej => by
    cases i with
    | zero =>
      simp at e
      subst e
      simp only [insOk, Bool.and_eq_true, List.all_eq_true] at h
      have := h.1 q hq
      rw [ej] at this
      exact of_decide_eq_true this
    | succ i =>
      have hr : insOk n r = true := by
        cases o with
        | ins c' fs' => simp only [insOk, Bool.and_eq_true] at h; exact h.2
        | lst _ => exact h
        | dK _ => exact h
        | dN _ => exact h
        | dL _ => exact h
        | gone => exact h
      exact insOk_mem hr (by simpa using e) q hq j ej
theorem insOk_c : ∀ {n : Nat} {st : Sto}, insOk n st = true → ∀ {i c : Nat} {fs : List (Str × Val)}, st[i]? = some (.ins c fs) → ∀ q ∈ fs, ∀ j y, q.2 ≠ .c j y
  | n, [], _, i, c, fs, e, q, hq, j, y => by simp at e
  | n, o :: r, h, i, c, fs, e, q, hq, j, y => by
    cases i with
    | zero =>
      simp at e
      subst e
      simp only [insOk, Bool.and_eq_true, List.all_eq_true] at h
      have := h.1 q hq
      intro ej
      rw [ej] at this
      cases this
    | succ i =>
      have hr : insOk n r = true := by
        cases o with
        | ins c' fs' => simp only [insOk, Bool.and_eq_true] at h; exact h.2
        | lst _ => exact h
        | dK _ => exact h
        | dN _ => exact h
        | dL _ => exact h
        | gone => exact h
      exact insOk_c hr (by simpa using e) q hq j y
theorem RepVs.cutM {C : RC} {G : Hp} {m m' : List Addr} (hm : ∀ i a, i < m.length → m'[i]? = some a → m[i]? = some a) : ∀ {vs : List V} {xs : List Val}, RepVs C G m' vs xs → (∀ x ∈ xs, ∀ j, x = .r j → j < m.length) → (∀ x ∈ xs, ∀ j y, x ≠ .c j y) → RepVs C G m vs xs
  | _, _, .nil, _, _ => .nil
  | _, _, .cons h r, k, kc => by
    refine .cons ?_ (RepVs.cutM hm r (fun x hx => k x (List.mem_cons_of_mem _ hx)) fun x hx => kc x (List.mem_cons_of_mem _ hx))
    cases h with
    | d h => exact .d h
    | s h => exact .s h
    | a h => exact .a h
    | c _ _ => exact absurd rfl (kc _ List.mem_cons_self _ _)
    | f => exact .f
    | r h => exact .r (hm _ _ (k _ List.mem_cons_self _ rfl) h)
/-- the store is cut back to what was there -/
theorem Rl.cut {C : RC} {G G' : Hp} {m m' : List Addr} {H H' : Hp} {st' : Sto} {n : Nat} (hn : m.length = n) (e : Ext G m H G' m' H') (r : Rl C G' m' H' st') (ok : insOk n (st'.take n) = true) : Rl C G' m H' (st'.take n) ∧ Ext G m H G' m H' := by
  have len : n ≤ m'.length := by
    cases n with
    | zero => exact Nat.zero_le _
    | succ k =>
      have : k < m.length := by omega
      have q := e.pre k m[k] (List.getElem?_eq_getElem this)
      have := (List.getElem?_eq_some_iff.mp q).1
      omega
  have same : ∀ (i : Nat) (a : Addr), i < m.length → m'[i]? = some a → m[i]? = some a := fun i a hi q => by
    have z := e.pre i m[i] (List.getElem?_eq_getElem hi)
    rw [q] at z
    cases z
    exact List.getElem?_eq_getElem hi
  have tk : ∀ (i : Nat) (o : MO), (st'.take n)[i]? = some o → st'[i]? = some o := fun i o q => by
    rw [List.getElem?_take] at q
    split at q
    · exact q
    · cases q
  have sub : m'.take n = m := by
    apply List.ext_getElem?
    intro i
    rw [List.getElem?_take]
    by_cases hi : i < n
    · rw [if_pos hi]
      rw [List.getElem?_eq_getElem (show i < m.length by omega)]
      exact e.pre i _ (List.getElem?_eq_getElem (by omega))
    · rw [if_neg hi, List.getElem?_eq_none (by omega)]
  refine ⟨⟨r.sub, ?_, ?_, fun a ha => r.liv a (by rw [← sub] at ha; exact List.mem_of_mem_take ha), fun i a o q1 q2 q3 => r.out i a o (e.pre i a q1) (tk i o q2) q3, fun i o a q1 q2 => ?_, fun j hj => ?_, fun a ha => r.clo a (by rw [← sub] at ha; exact List.mem_of_mem_take ha)⟩, ⟨e.sub, fun _ _ q => q, fun a o h k nt => e.frm a o h k nt, fun _ z => .inl z, e.gn, e.al⟩⟩
  · rw [List.length_take, ← r.len]; omega
  · rw [← sub]; exact r.nd.sublist (List.take_sublist _ _)
  · have z := r.obj i o a (tk i o q1) (e.pre i a q2)
    cases o with
    | lst xs => exact z
    | dK _ => exact z
    | dN _ => exact z
    | dL _ => exact z
    | gone => exact z
    | ins c fs =>
      obtain ⟨dx, vs, h1, h2, h3⟩ := z
      refine ⟨dx, vs, h1, h2, RepVs.cutM same h3 (fun x hx j ej => ?_) fun x hx j y => ?_⟩
      · obtain ⟨q, hq, eq⟩ := List.mem_map.mp hx
        rw [hn]
        exact insOk_mem ok q1 q hq j (by rw [eq]; exact ej)
      · obtain ⟨q, hq, eq⟩ := List.mem_map.mp hx
        rw [← eq]
        exact insOk_c ok q1 q hq j y
  · obtain ⟨ps, z1, z2, z3⟩ := r.tab j hj
    exact ⟨ps, z1, fun q => z2 (by rw [← sub] at q; exact List.mem_of_mem_take q), z3⟩
theorem envR_start {C : RC} {G : Hp} {m : List Addr} {N : List Str} {vs : List V} {as : List Val} (r : RepVs C G m vs as) (hl : vs.length ≤ N.length) : EnvR C G m (L2.start N vs) (as.map some ++ List.replicate (N.length - as.length) none) := by
  have e := r.length
  refine ⟨by simp [L2.start, e], fun i v q => ?_⟩
  unfold L2.start
  by_cases hi : i < as.length
  · rw [List.getElem?_append_left (by simpa using hi)] at q
    rw [List.getElem?_map] at q
    cases q2 : as[i]? with
    | none => rw [q2] at q; cases q
    | some b =>
      rw [q2] at q
      cases q
      obtain ⟨x, hx, rx⟩ := r.get q2
      exact ⟨x, by rw [List.getElem?_append_left (by simpa [e] using hi), List.getElem?_map, hx]; rfl, rx⟩
  · rw [List.getElem?_append_right (by simpa using hi)] at q
    rw [List.getElem?_replicate] at q
    split at q <;> cases q
theorem fn_sound_aux {w : World} {K : PySem.W.Frag} {N ps : List Str} {ev : ES} {cl : Nat → Addr} {vs : List V} {H : Hp} {Q : VK} {E : XK} (hle : ps.length ≤ N.length) (h : spF ⟨K, w, cl⟩ ps.length (runF N.length ps.length ev) vs H Q E) :
    tS ⟨K, w, cl⟩ (fun cls d _ H' => E cls d H') ev { nx := fun _ H' => Q .non H', rt := Q } (L2.start N vs) H := by
  obtain ⟨G, m, st, as, rl, ra, hl, p⟩ := h
  refine ⟨G, m, as.map some ++ List.replicate (N.length - ps.length) none, st, rl, ?_, ?_⟩
  · have := envR_start (N := N) ra (by rw [ra.length, hl]; exact hle)
    rw [hl] at this
    exact this
  · unfold runF at p
    rw [if_pos hl] at p
    have fz : ∀ {v : Val} {s1 : Sto}, Post ⟨K, w, cl⟩ (RepV ⟨K, w, cl⟩) G m H Q E (fin st.length v s1) → ∀ x H' G' m', Ext G m H G' m' H' → Rl ⟨K, w, cl⟩ G' m' H' s1 → RepV ⟨K, w, cl⟩ G' m' x v → Q x H' := fun {v s1} p x H' G' m' ex r1 rx => by
      unfold fin at p
      split at p
      · rename_i ok
        obtain ⟨r2, ex2⟩ := Rl.cut (n := st.length) rl.len ex r1 ok
        have z := rl.len
        have len : m.length ≤ m'.length := by
          cases hm : m.length with
          | zero => exact Nat.zero_le _
          | succ q =>
            have h1 : q < m.length := by omega
            have h2 := ex.pre q m[q] (List.getElem?_eq_getElem h1)
            have h3 := (List.getElem?_eq_some_iff.mp h2).1
            omega
        split at p
        · cases rx with
          | d rx => exact p x H' G' m ex2 r2 (.d rx)
        · cases rx with
          | s rx => exact p _ H' G' m ex2 r2 (.s rx)
        · exact p.elim
        · exact p.elim
        · exact p.elim
        · rename_i i
          cases rx with
          | r q =>
            split at p
            · rename_i hi
              refine p _ H' G' m ex2 r2 (.r ?_)
              have hz : i < m.length := by omega
              have w1 := ex.pre i m[i] (List.getElem?_eq_getElem hz)
              rw [q] at w1
              cases w1
              exact List.getElem?_eq_getElem hz
            · rename_i hi
              split at p
              · rename_i xs e
                obtain ⟨G2, r3, ex3, q3⟩ := r1.freeze q e
                have ok2 : insOk st.length ((s1.set i .gone).take st.length) = true := by
                  rw [List.take_set_of_le (Nat.not_lt.mp hi)]; exact ok
                obtain ⟨r4, ex4⟩ := Rl.cut (n := st.length) rl.len (ex.trans ex3) r3 ok2
                rw [List.take_set_of_le (Nat.not_lt.mp hi)] at r4
                exact p _ H' G2 m ex4 r4 (.d q3)
              · exact p.elim
      · exact p.elim
    split at p
    · rename_i env s1 e
      rw [e]
      exact fun σ' H' G' m' ex r1 _ => fz p .non H' G' m' ex r1 (.d .non)
    · rename_i v s1 e
      rw [e]
      exact fun x H' G' m' ex r1 rx => fz p x H' G' m' ex r1 rx
    · rename_i e1 env s1 e
      rw [e]
      split at p
      · rename_i ok
        intro cls d σ' H' G' m' ex r1 _ rx
        obtain ⟨r2, ex2⟩ := Rl.cut (n := st.length) rl.len ex r1 ok
        exact p cls d H' G' m ex2 r2 rx
      · exact p.elim
    · exact p.elim
end
end Mi
end

section
set_option maxRecDepth 100000
set_option autoImplicit false
namespace Mi
open PySem PySem.Spec L2

/-! ### statements -/
def sNx : ES := fun env st => .ok (.nx env) st
def sSeq (a b : ES) : ES := fun env st => match a env st with
  | .ok (.nx e) s => b e s
  | r => r
def sExpr (e : EE) : ES := fun env st => (e env st).bindS env fun _ s => .ok (.nx env) s
def sRet (e : EE) : ES := fun env st => (e env st).bindS env fun v s => .ok (.rt v) s
def sRetN : ES := fun _ st => .ok (.rt (.d .none)) st
def sIf (t : ET) (a b : ES) : ES := fun env st => (t env st).bindS env fun v s => match v with
  | true => a env s
  | false => b env s
def sSet (i : Nat) (e : EE) : ES := fun env st => (e env st).bindS env fun v s => .ok (.nx (env.set i (some v))) s
def sNever : ES := fun _ _ => .bad
section
variable {cl : Nat → Addr} {X : Cx} {W : WX} {pos : Pos} {a b c : Expr} {ea eb : EE} {ta : ET} {st : Stmt} {rest l1 l2 : List Stmt} {s1 s2 : ES}
theorem ss_nil : SSs cl X W [] sNx := pss_nil.impM fun D σ H h => by
  obtain ⟨G, m, env, st, rl, en, p⟩ := h
  exact p σ H G m (Ext.refl _ _ _) rl en
theorem PostS.seq {C : RC} {G : Hp} {m : List Addr} {H : Hp} {D D' : Ends} {env : Ev} {st : Sto} (h : PostS C G m H D W (sSeq s1 s2 env st))
    (k : ∀ e s, s1 env st = .ok (.nx e) s → ∀ σ' H' G' m', Ext G m H G' m' H' → Rl C G' m' H' s → EnvR C G' m' σ' e → PostS C G' m' H' D W (s2 e s) → D'.nx σ' H') (hr : D'.rt = D.rt) (hb : D'.bk = D.bk) (hc : D'.ct = D.ct) : PostS C G m H D' W (s1 env st) := by
  unfold sSeq at h
  cases e : s1 env st with
  | ok f s =>
    rw [e] at h
    cases f with
    | nx e' => exact fun σ' H' G' m' ex rl en => k e' s e σ' H' G' m' ex rl en (PostS.ext ex h)
    | rt v => exact fun x H' G' m' ex rl rx => by rw [hr]; exact h x H' G' m' ex rl rx
    | bk v => exact fun x H' G' m' ex rl rx => by rw [hb]; exact h x H' G' m' ex rl rx
    | ct v => exact fun x H' G' m' ex rl rx => by rw [hc]; exact h x H' G' m' ex rl rx
    | ex v w => exact h
  | exc e1 s => rw [e] at h; exact h
  | bad => rw [e] at h; exact h
theorem ss_cons (h1 : SS cl X W st s1) (h2 : SSs cl X W rest s2) : SSs cl X W (st :: rest) (sSeq s1 s2) := (pss_cons h1 h2).impM fun D σ H h => by
  obtain ⟨G, m, env, st, rl, en, p⟩ := h
  exact ⟨G, m, env, st, rl, en, PostS.seq p (fun e s _ σ' H' G' m' ex rl' en' q => ⟨G', m', e, s, rl', en', q⟩) rfl rfl rfl⟩
theorem ss_one (h1 : SS cl X W st s1) : SSs cl X W [st] s1 := pss_one h1
theorem ss_expr (he : SE cl X W a ea) (hs : swapsWith a none pos.line X.env = pure false := by rfl) : SS cl X W (.Expr a pos) (sExpr ea) := (ps_expr he hs).impM fun D σ H h => by
  obtain ⟨G, m, env, st, rl, en, p⟩ := h
  exact ⟨G, m, env, st, rl, en, Post.bindS en p fun v s1 x H1 G1 m1 _ e1 rl1 r1 p1 => p1 σ H1 G1 m1 (Ext.refl _ _ _) rl1 (en.ext e1)⟩
theorem ss_ret (he : SE cl X W a ea) : SS cl X W (.Return (some a) pos) (sRet ea) := (ps_ret he).impM fun D σ H h => by
  obtain ⟨G, m, env, st, rl, en, p⟩ := h
  exact ⟨G, m, env, st, rl, en, Post.bindS en p fun v s1 x H1 G1 m1 _ e1 rl1 r1 p1 => p1 x H1 G1 m1 (Ext.refl _ _ _) rl1 r1⟩
theorem ss_if (hc : ST cl X W c ta) (h1 : SSs cl X W l1 s1) (h2 : SSs cl X W l2 s2) : SS cl X W (.If c l1 l2 pos) (sIf ta s1 s2) := (ps_if hc h1 h2).impM fun D σ H h => by
  obtain ⟨G, m, env, st, rl, en, p⟩ := h
  refine ⟨G, m, env, st, rl, en, Post.bindS en p fun v s1 x H1 G1 m1 _ e1 rl1 r1 p1 => ?_⟩
  cases (show x = v from r1)
  cases v with
  | true => rw [if_pos rfl]; exact ⟨G1, m1, env, s1, rl1, en.ext e1, p1⟩
  | false => rw [if_neg (by decide)]; exact ⟨G1, m1, env, s1, rl1, en.ext e1, p1⟩
theorem ss_set {x : Str} {pos' : Pos} (i : Nat) (hN : X.N.Nodup) (hi : X.N[i]? = some x) (hx : Loc X.env.scope x) (he : SE cl X W a ea) (hs : swapsWith a (some (.Name x pos')) pos.line X.env = pure false := by rfl) (hf : X.fn x = true ∨ X.env.scope.names.lookup x = some .local := by first | exact .inl rfl | exact .inr rfl | assumption) :
    SS cl X W (.Assign [.Name x pos'] a pos) (sSet i ea) := (ps_set hN hi hx he hs hf).impM fun D σ H h => by
  obtain ⟨G, m, env, st, rl, en, p⟩ := h
  exact ⟨G, m, env, st, rl, en, Post.bindS en p fun v s1 x H1 G1 m1 _ e1 rl1 r1 p1 => p1 _ H1 G1 m1 (Ext.refl _ _ _) rl1 ((en.ext e1).set r1 i)⟩

/-! ### targets -/
inductive Tg where
  | nm (i : Nat)
  | tp (is : List Nat)
  | t2 (i : Nat) (is : List Nat)
def setAll : List Nat → List D → Ev → Ev
  | i :: is, x :: xs, env => setAll is xs (env.set i (some (.d x)))
  | _, _, env => env
def Tg.put : Tg → D → Ev → Option Ev
  | .nm i, d, env => some (env.set i (some (.d d)))
  | .tp is, .tuple xs, env => if xs.length = is.length then some (setAll is xs env) else none
  | .tp _, _, _ => none
  | .t2 i is, .tuple [x, .tuple ys], env => if ys.length = is.length then some (setAll is ys (env.set i (some (.d x)))) else none
  | .t2 _ _, _, _ => none
def Tg.slots : Tg → List Nat
  | .nm i => [i]
  | .tp is => is
  | .t2 i is => i :: is
/-- slots outside a list are as they were -/
def Outside (vs : List Nat) (σ σ' : L2.St) : Prop := σ'.length = σ.length ∧ ∀ i : Nat, i ∉ vs → σ'[i]? = σ[i]?
theorem Outside.refl (vs : List Nat) (σ : L2.St) : Outside vs σ σ := ⟨rfl, fun _ _ => rfl⟩
def gAll : List Nat → TGs
  | [] => gNil
  | i :: is => gCons (gName i) (gAll is)
def Tg.g (K : PySem.W.Frag) : Tg → TG
  | .nm i => gName i
  | .tp is => gTup K is.length (gAll is)
  | .t2 i is => gTup K 2 (gCons (gName i) (gCons (gTup K is.length (gAll is)) gNil))
theorem gAll_of {C : RC} {G : Hp} {m : List Addr} {H : Hp} : ∀ (is : List Nat) (vs : List V) (xs : List D) (σ : L2.St) (env : Ev) (Q : L2.St → Hp → Prop), EnvR C G m σ env → RepAll C G vs xs → xs.length = is.length →
    (∀ σ', Outside is σ σ' → EnvR C G m σ' (setAll is xs env) → Q σ' H) → gAll is vs σ H Q
  | [], _, [], σ, env, Q, en, r, hl, h => by cases r; exact ⟨rfl, h σ (Outside.refl _ _) en⟩
  | [], _, _ :: _, σ, env, Q, en, r, hl, h => by simp at hl
  | _ :: _, _, [], σ, env, Q, en, r, hl, h => by simp at hl
  | i :: is, _, x :: xs, σ, env, Q, en, r, hl, h => by
    cases r with
    | cons r1 r2 =>
      refine ⟨_, _, rfl, gAll_of is _ xs _ _ Q (en.set (.d r1) i) r2 (by simpa using hl) fun σ' o en' => h σ' ⟨by rw [o.1]; simp, fun j hj => ?_⟩ en'⟩
      rw [o.2 j (fun z => hj (List.mem_cons_of_mem _ z)), List.getElem?_set_ne (fun z => hj (by rw [z]; exact List.mem_cons_self))]
theorem Tg.g_of {C : RC} {G : Hp} {m : List Addr} {H : Hp} {st : Sto} {tg : Tg} {x : V} {d : D} {σ : L2.St} {env env' : Ev} {Q : L2.St → Hp → Prop} (rl : Rl C G m H st) (en : EnvR C G m σ env) (r : Rep C G x d) (h : tg.put d env = some env')
    (k : ∀ σ', Outside tg.slots σ σ' → EnvR C G m σ' env' → Q σ' H) : tg.g C.K x σ H Q := by
  cases tg with
  | nm i =>
    cases h
    refine k _ ⟨by simp, fun j hj => List.getElem?_set_ne (fun z => hj (by rw [z]; exact List.mem_cons_self))⟩ (en.set (.d r) i)
  | tp is =>
    cases r with
    | tup q ra =>
      simp only [Tg.put] at h
      split at h
      · rename_i hl
        cases h
        exact ⟨_, _, rfl, SqT.sub rl.sub q, by rw [ra.length]; exact hl, gAll_of is _ _ σ env Q en ra hl k⟩
      · cases h
    | non => cases h
    | bl => cases h
    | int => cases h
    | str => cases h
    | lst => cases h
    | dK => cases h
    | dN => cases h
  | t2 i is =>
    cases r with
    | tup q ra =>
      cases ra with
      | nil => cases h
      | cons r0 ra =>
        cases ra with
        | nil => cases h
        | cons r1 ra =>
          cases ra with
          | cons r2 ra => cases r1 <;> cases h
          | nil =>
            cases r1 with
            | tup q1 ra1 =>
              simp only [Tg.put] at h
              split at h
              · rename_i hl
                cases h
                refine ⟨_, _, rfl, SqT.sub rl.sub q, rfl, _, _, rfl, ?_⟩
                refine ⟨_, _, rfl, _, _, rfl, SqT.sub rl.sub q1, by rw [ra1.length]; exact hl, ?_⟩
                refine gAll_of is _ _ _ _ _ (en.set (.d r0) i) ra1 hl fun σ' o en' => ⟨rfl, k σ' ⟨by rw [o.1]; simp, fun j hj => ?_⟩ en'⟩
                rw [o.2 j (fun z => hj (List.mem_cons_of_mem _ z)), List.getElem?_set_ne (fun z => hj (by rw [z]; exact List.mem_cons_self))]
              · cases h
            | non => cases h
            | bl => cases h
            | int => cases h
            | str => cases h
            | lst => cases h
            | dK => cases h
            | dN => cases h
    | non => cases h
    | bl => cases h
    | int => cases h
    | str => cases h
    | lst => cases h
    | dK => cases h
    | dN => cases h
abbrev SG (X : Cx) (t : Expr) (tg : Tg) : Prop := PG X t (tg.g X.K)
theorem sg_name {x : Str} (i : Nat) (hN : X.N.Nodup) (hi : X.N[i]? = some x) (hx : Loc X.env.scope x) (hf : X.fn x = true ∨ X.env.scope.names.lookup x = some .local := by first | exact .inl rfl | exact .inr rfl | assumption) : SG X (.Name x pos) (.nm i) := pg_name hN hi hx hf
theorem sg_tup {es : List Expr} {k : Nat} {is : List Nat} (hc : X.calm = true) (h : PGs X es (gAll is)) (hn : (assignEach es X.env).length = is.length := by rfl) (hst : (assignEach es X.env).findIdx? (·.1) = none := by rfl) : SG X (.Tuple es k pos) (.tp is) := pg_tup hc h hn hst
theorem sgs_nil : PGs X [] (gAll []) := pgs_nil
theorem sgs_cons {x : Str} {es : List Expr} (i : Nat) {is : List Nat} (hN : X.N.Nodup) (hi : X.N[i]? = some x) (hx : Loc X.env.scope x) (h2 : PGs X es (gAll is)) (hf : X.fn x = true ∨ X.env.scope.names.lookup x = some .local := by first | exact .inl rfl | exact .inr rfl | assumption)
    (hs : (assignEach (.Name x pos :: es) X.env).map (·.2) = assign (.Name x pos) X.env :: (assignEach es X.env).map (·.2) := by rfl) : PGs X (.Name x pos :: es) (gAll (i :: is)) := pgs_cons (pg_name hN hi hx hf) h2 hs
def sSetT (tg : Tg) (e : EE) : ES := fun env st => (e env st).bindS env fun v s => match v with
  | .d d => (match tg.put d env with
    | some env' => .ok (.nx env') s
    | none => .bad)
  | _ => .bad
theorem ss_setT {t : Expr} {tg : Tg} (he : SE cl X W a ea) (hg : SG X t tg) (hs : swapsWithSole [t] a pos.line X.env = pure false := by rfl) (hw : swappedStores [t] a X.env = pure none := by rfl)
    (h1 : (assignEach [t] X.env).map (·.2) = [assign t X.env] := by rfl) : SS cl X W (.Assign [t] a pos) (sSetT tg ea) := (ps_asg he hg hs hw h1).impM fun D σ H h => by
  obtain ⟨G, m, env, st, rl, en, p⟩ := h
  refine ⟨G, m, env, st, rl, en, Post.bindS en p fun v s1 x H1 G1 m1 _ e1 rl1 r1 p1 => ?_⟩
  split at p1
  · split at p1
    · rename_i env' e
      cases r1 with
      | d r => exact Tg.g_of rl1 (en.ext e1) r e fun σ' _ en' => p1 σ' H1 G1 m1 (Ext.refl _ _ _) rl1 en'
    · exact p1.elim
  · exact p1.elim
/-- a, b = x, y -/
def setVs : List Nat → List Val → Ev → Ev
  | i :: is, x :: xs, env => setVs is xs (env.set i (some x))
  | _, _, env => env
def sParN (is : List Nat) (ea : EA) : ES := fun env st => (ea env st).bindS env fun vs s => if vs.length = is.length then .ok (.nx (setVs is vs env)) s else .bad
theorem ss_par {x y : Str} {er : EA} {px py pt : Pos} {kt k2 : Nat} {pt2 : Pos} (i j : Nat) (hc : X.calm = true) (hN : X.N.Nodup) (hi : X.N[i]? = some x) (hj : X.N[j]? = some y) (hij : i ≠ j)
    (hx : X.env.scope.names.lookup x = some .local) (hy : X.env.scope.names.lookup y = some .local) (ha : SA cl X W [a, b] er)
    (hw : swappedStores [.Tuple [.Name x px, .Name y py] kt pt] (.Tuple [a, b] k2 pt2) X.env = pure (some [x, y]))
    (hs : swapsWithSole [.Tuple [.Name x px, .Name y py] kt pt] (.Tuple [a, b] k2 pt2) pos.line X.env = pure false := by rfl) :
    SS cl X W (.Assign [.Tuple [.Name x px, .Name y py] kt pt] (.Tuple [a, b] k2 pt2) pos) (sParN [i, j] er) := (ps_par hc hN hi hj hij hx hy ha hw hs).impM fun D σ H h => by
  obtain ⟨G, m, env, st, rl, en, p⟩ := h
  refine ⟨G, m, env, st, rl, en, Post.bindS en p fun v s1 x H1 G1 m1 _ e1 rl1 r1 p1 => ?_⟩
  split at p1
  · rename_i hl
    match v, hl with
    | [w1, w2], _ =>
      obtain ⟨v1, v2, rfl, q1, q2⟩ := repVs2 r1
      exact ⟨v1, v2, rfl, p1 _ H1 G1 m1 (Ext.refl _ _ _) rl1 (((en.ext e1).set q1 i).set q2 j)⟩
  · exact p1.elim
end
end Mi
end

section
set_option maxRecDepth 100000
set_option autoImplicit false
namespace Mi
open PySem PySem.Spec L2

/-! ### what is walked -/
abbrev EI := Ev → Sto → R (List D)
structure Iters (C : RC) (G : Hp) (J : It) (xs : List D) : Prop where
  go : ∀ {G1 : Hp} {m1 : List Addr} {H : Hp} {st1 : Sto} {i : Nat}, Sub G G1 → Rl C G1 m1 H st1 → i < xs.length → J.go i H
  yld : ∀ {G1 : Hp} {m1 : List Addr} {H : Hp} {st1 : Sto} {i : Nat} {x : V} {H' : Hp} {d : D}, Sub G G1 → Rl C G1 m1 H st1 → J.yld i H x H' → xs[i]? = some d → ∃ G2, Ext G1 m1 H G2 m1 H' ∧ Rl C G2 m1 H' st1 ∧ Rep C G2 x d
  stop : ∀ {G1 : Hp} {m1 : List Addr} {H : Hp} {st1 : Sto} {i : Nat}, Sub G G1 → Rl C G1 m1 H st1 → xs.length ≤ i → J.stop i H
def relI (C : RC) (G : Hp) (_ : List Addr) (J : It) (xs : List D) : Prop := Iters C G J xs
def tI (C : RC) (W : WX) (ei : EI) : TI := fun σ H Q => ∃ G m env st, Rl C G m H st ∧ EnvR C G m σ env ∧ Post C (relI C) G m H Q (fun c d H' => W c d σ H') (ei env st)
abbrev SI (cl : Nat → Addr) (X : Cx) (W : WX) (t iter : Expr) (ei : EI) : Prop := PI X t iter (tI (rc X cl) W ei)
theorem iters_list {C : RC} {G : Hp} {a : Addr} {vs : List V} {xs : List D} (h : G a = some (.lst vs)) (r : RepAll C G vs xs) : Iters C G (Itl C.K a) xs where
  go := fun {G1 m1 H st1 i} s rl hi => by
    have q : SqL C.K H a vs := SqL.of (rl.sub _ _ (s _ _ h))
    have e : xs[i]? = some xs[i] := List.getElem?_eq_getElem hi
    obtain ⟨v, hv, _⟩ := r.get e
    exact ⟨vs, v, q, hv⟩
  yld := fun {G1 m1 H st1 i x H' d} s rl y e => by
    obtain ⟨rfl, y⟩ := y
    obtain ⟨v, hv, rv⟩ := r.get e
    have z := y vs (SqL.of (rl.sub _ _ (s _ _ h)))
    rw [hv] at z
    cases z
    exact ⟨G1, Ext.refl _ _ _, rl, rv.sub s⟩
  stop := fun {G1 m1 H st1 i} s rl hi => ⟨vs, SqL.of (rl.sub _ _ (s _ _ h)), by rw [r.length]; exact hi⟩
theorem iters_range {C : RC} {G : Hp} (lo : Int) (n : Nat) : Iters C G (Itr lo n) ((List.range n).map fun k => PyData.int (lo + (k : Nat))) where
  go := fun {G1 m1 H st1 i} s rl hi => by simpa [Itr] using hi
  yld := fun {G1 m1 H st1 i x H' d} s rl y e => by
    obtain ⟨rfl, rfl⟩ := y
    have : d = .int (lo + i) := by
      rw [List.getElem?_map] at e
      cases q : (List.range n)[i]? with
      | none => rw [q] at e; cases e
      | some k =>
        rw [q] at e
        have := List.getElem?_range (n := n) (i := i)
        obtain ⟨hl, z⟩ := List.getElem?_eq_some_iff.mp q
        rw [List.getElem_range] at z
        subst z
        cases e; rfl
    subst this
    exact ⟨G1, Ext.refl _ _ _, rl, .int _⟩
  stop := fun {G1 m1 H st1 i} s rl hi => by simpa [Itr] using hi
/-- two side by side -/
def zipD (xs ys : List D) : List D := List.zipWith (fun x y => PyData.tuple [x, y]) xs ys
theorem zipD_get {xs ys : List D} {i : Nat} {d : D} (h : (zipD xs ys)[i]? = some d) : ∃ x y, xs[i]? = some x ∧ ys[i]? = some y ∧ d = .tuple [x, y] := by
  unfold zipD at h
  rw [List.getElem?_zipWith] at h
  cases e1 : xs[i]? with
  | none => rw [e1] at h; simp at h
  | some x =>
    cases e2 : ys[i]? with
    | none => rw [e1, e2] at h; simp at h
    | some y => rw [e1, e2] at h; simp at h; exact ⟨x, y, rfl, rfl, h.symm⟩
theorem iters_zipL {C : RC} {G : Hp} {a b : Addr} {vs us : List V} {xs ys : List D} (ha : G a = some (.lst vs)) (hb : G b = some (.lst us)) (ra : RepAll C G vs xs) (rb : RepAll C G us ys) : Iters C G (Itz C.K a b) (zipD xs ys) where
  go := fun {G1 m1 H st1 i} s rl hi => by
    obtain ⟨x, y, e1, e2, _⟩ := zipD_get (List.getElem?_eq_getElem hi)
    obtain ⟨v, hv, _⟩ := ra.get e1
    obtain ⟨u, hu, _⟩ := rb.get e2
    exact ⟨vs, us, v, u, SqL.of (rl.sub _ _ (s _ _ ha)), SqL.of (rl.sub _ _ (s _ _ hb)), hv, hu⟩
  yld := fun {G1 m1 H st1 i x H' d} s rl y e => by
    obtain ⟨T, x1, y1, rfl, hT, rfl, q1, q2⟩ := y
    obtain ⟨x, y, e1, e2, rfl⟩ := zipD_get e
    obtain ⟨v, hv, rv⟩ := ra.get e1
    obtain ⟨u, hu, ru⟩ := rb.get e2
    have z1 := q1 vs (SqL.of (rl.sub _ _ (s _ _ ha)))
    have z2 := q2 us (SqL.of (rl.sub _ _ (s _ _ hb)))
    rw [hv] at z1; rw [hu] at z2
    cases z1; cases z2
    obtain ⟨r2, ex⟩ := rl.laid hT (.tup [x1, y1])
    exact ⟨_, ex, r2, .tup (SqT.of upd_same) (.cons ((rv.sub s).sub ex.sub) (.cons ((ru.sub s).sub ex.sub) .nil))⟩
  stop := fun {G1 m1 H st1 i} s rl hi => by
    refine ⟨vs, us, SqL.of (rl.sub _ _ (s _ _ ha)), SqL.of (rl.sub _ _ (s _ _ hb)), ?_⟩
    have : (zipD xs ys).length = min xs.length ys.length := by simp [zipD]
    rw [ra.length, rb.length]; omega
theorem iters_zipT {C : RC} {G : Hp} {a b : Addr} {vs us : List V} {xs ys : List D} (ha : SqT C.K G a vs) (hb : SqT C.K G b us) (ra : RepAll C G vs xs) (rb : RepAll C G us ys) : Iters C G (RZ.ItzT C.K a b) (zipD xs ys) where
  go := fun {G1 m1 H st1 i} s rl hi => by
    obtain ⟨x, y, e1, e2, _⟩ := zipD_get (List.getElem?_eq_getElem hi)
    obtain ⟨v, hv, _⟩ := ra.get e1
    obtain ⟨u, hu, _⟩ := rb.get e2
    exact ⟨vs, us, v, u, SqT.sub (s.trans rl.sub) ha, SqT.sub (s.trans rl.sub) hb, hv, hu⟩
  yld := fun {G1 m1 H st1 i x H' d} s rl y e => by
    obtain ⟨T, x1, y1, rfl, hT, rfl, q1, q2⟩ := y
    obtain ⟨x, y, e1, e2, rfl⟩ := zipD_get e
    obtain ⟨v, hv, rv⟩ := ra.get e1
    obtain ⟨u, hu, ru⟩ := rb.get e2
    have z1 := q1 vs (SqT.sub (s.trans rl.sub) ha)
    have z2 := q2 us (SqT.sub (s.trans rl.sub) hb)
    rw [hv] at z1; rw [hu] at z2
    cases z1; cases z2
    obtain ⟨r2, ex⟩ := rl.laid hT (.tup [x1, y1])
    exact ⟨_, ex, r2, .tup (SqT.of upd_same) (.cons ((rv.sub s).sub ex.sub) (.cons ((ru.sub s).sub ex.sub) .nil))⟩
  stop := fun {G1 m1 H st1 i} s rl hi => by
    refine ⟨vs, us, SqT.sub (s.trans rl.sub) ha, SqT.sub (s.trans rl.sub) hb, ?_⟩
    have : (zipD xs ys).length = min xs.length ys.length := by simp [zipD]
    rw [ra.length, rb.length]; omega
def enumD : Nat → List D → List D
  | _, [] => []
  | k, x :: xs => .tuple [.int (k : Nat), x] :: enumD (k + 1) xs
section
variable {cl : Nat → Addr} {X : Cx} {W : WX} {pos p tpos : Pos} {t a b : Expr} {ea eb : EE}
theorem _root_.L2.PI.impM {iter : Expr} {w w' : TI} (h : PI X t iter w) (i : ∀ σ H Q, w' σ H Q → w σ H Q) : PI X t iter w' := ⟨fun pins s σ H Q I q => h.run pins s σ H Q I (i _ _ _ q)⟩
theorem pi_or {iter : Expr} {w w' : TI} (h : PI X t iter w) (h' : PI X t iter w') : PI X t iter (fun σ H Q => w σ H Q ∨ w' σ H Q) := ⟨fun pins s σ H Q I q => q.elim (h.run pins s σ H Q I) (h'.run pins s σ H Q I)⟩
/-- a list or a tuple that stays as it is -/
def iSeq (e : EE) : EI := fun env st => (e env st).bind fun v s => match v with
  | .d (.list xs) => .ok xs s
  | .d (.tuple xs) => .ok xs s
  | _ => .bad
theorem si_seq (he : SE cl X W a ea) : SI cl X W t a (iSeq ea) := by
  refine (pi_or (pi_list he) (pi_tup he)).impM fun σ H Q h => ?_
  obtain ⟨G, m, env, st, rl, en, p⟩ := h
  have hp := p
  unfold iSeq at p
  cases e : ea env st with
  | bad => rw [e] at p; exact p.elim
  | exc x s => exact .inl ⟨G, m, env, st, rl, en, by rw [e] at p ⊢; exact p⟩
  | ok v s =>
    rw [e] at p
    simp only [R.bind_ok] at p
    split at p
    · refine .inl ⟨G, m, env, st, rl, en, ?_⟩
      rw [e]
      intro x H1 G1 m1 e1 rl1 r1
      cases r1 with
      | d r =>
        cases r with
        | lst g ra => exact ⟨_, rfl, ⟨_, SqL.of (rl1.sub _ _ g)⟩, p _ H1 G1 m1 e1 rl1 (iters_list g ra)⟩
    · refine .inr ⟨G, m, env, st, rl, en, ?_⟩
      rw [e]
      intro x H1 G1 m1 e1 rl1 r1
      cases r1 with
      | d r =>
        cases r with
        | tup g ra =>
          refine ⟨_, rfl, ⟨_, SqT.sub rl1.sub g⟩, p _ H1 G1 m1 e1 rl1 ⟨fun {G2 m2 H2 st2 i} s rl2 hi => ?_, fun {G2 m2 H2 st2 i y H3 d} s rl2 yy e2 => ?_, fun {G2 m2 H2 st2 i} s rl2 hi => ?_⟩⟩
          · obtain ⟨v, hv, _⟩ := ra.get (List.getElem?_eq_getElem hi)
            exact ⟨_, v, SqT.sub (s.trans rl2.sub) g, hv⟩
          · obtain ⟨rfl, yy⟩ := yy
            obtain ⟨v, hv, rv⟩ := ra.get e2
            have z := yy _ (SqT.sub (s.trans rl2.sub) g)
            rw [hv] at z
            cases z
            exact ⟨G2, Ext.refl _ _ _, rl2, rv.sub s⟩
          · exact ⟨_, SqT.sub (s.trans rl2.sub) g, by rw [ra.length]; exact hi⟩
    · exact p.elim
def iRange (a : EA) : EI := fun env st => (a env st).bind fun vs s => match vs with
  | [.d (.int n)] => if -(2 ^ 62) ≤ n ∧ n ≤ 1000000 then .ok ((List.range n.toNat).map fun k => PyData.int (0 + (k : Nat))) s else .bad
  | _ => .bad
theorem si_range {er : EA} (hg : Gl X "range") (hm : X.mg "range" = none) (ha : SA cl X W [a] er) (hs : starEach [a] X.env = [(false, eval a X.env)] := by rfl) : SI cl X W t (.Call (.Name "range" p) [a] [] pos) (iRange er) :=
  (pi_range1 hg hm ha hs).impM fun σ H Q h => by
    obtain ⟨G, m, env, st, rl, en, p⟩ := h
    refine ⟨G, m, env, st, rl, en, Post.bindE p fun v s1 x H1 G1 m1 e0 e1 rl1 r1 p1 => ?_⟩
    split at p1
    · rename_i n
      split at p1
      · rename_i hn
        obtain ⟨v1, rfl, q1⟩ := repVs1 r1
        cases q1 with
        | d q1 => cases q1; exact ⟨_, rfl, hn.1, by omega, p1 _ H1 G1 m1 (Ext.refl _ _ _) rl1 (iters_range 0 _)⟩
      · exact p1.elim
    · exact p1.elim
def zipOf (vs : List Val) : Option (List D) := match vs with
  | [.d (.list xs), .d (.list ys)] => some (zipD xs ys)
  | [.d (.tuple xs), .d (.tuple ys)] => some (zipD xs ys)
  | _ => none
def iZip (a : EA) : EI := fun env st => (a env st).bind fun vs s => match zipOf vs with
  | some xs => .ok xs s
  | none => .bad
theorem si_zip {er : EA} {elts : List Expr} {kk : Nat} (hg : Gl X "zip") (hm : X.mg "zip" = none) (ha : SA cl X W [a, b] er) (hs : starEach [a, b] X.env = (false, eval a X.env) :: starEach [b] X.env := by rfl) (hpl : (backTo pos (starEach [b] X.env)).any (·.1) = false := by rfl) :
    SI cl X W (.Tuple elts kk tpos) (.Call (.Name "zip" p) [a, b] [] pos) (iZip er) := (RZ.pi_zipA hg hm ha hs hpl).impM fun σ H Q h => by
  obtain ⟨G, m, env, st, rl, en, p⟩ := h
  refine ⟨G, m, env, st, rl, en, Post.bindE p fun v s1 x H1 G1 m1 e0 e1 rl1 r1 p1 => ?_⟩
  unfold zipOf at p1
  split at p1
  · rename_i xs e
    split at e
    · obtain ⟨v1, v2, rfl, q1, q2⟩ := repVs2 r1
      cases e
      cases q1 with
      | d q1 =>
        cases q2 with
        | d q2 =>
          cases q1 with
          | lst g1 a1 =>
            cases q2 with
            | lst g2 a2 => exact ⟨_, _, _, _, rfl, .inl ⟨SqL.of (rl1.sub _ _ g1), SqL.of (rl1.sub _ _ g2), p1 _ H1 G1 m1 (Ext.refl _ _ _) rl1 (iters_zipL g1 g2 a1 a2)⟩⟩
    · obtain ⟨v1, v2, rfl, q1, q2⟩ := repVs2 r1
      cases e
      cases q1 with
      | d q1 =>
        cases q2 with
        | d q2 =>
          cases q1 with
          | tup g1 a1 =>
            cases q2 with
            | tup g2 a2 => exact ⟨_, _, _, _, rfl, .inr ⟨SqT.sub rl1.sub g1, SqT.sub rl1.sub g2, p1 _ H1 G1 m1 (Ext.refl _ _ _) rl1 (iters_zipT g1 g2 a1 a2)⟩⟩
    · cases e
  · exact p1.elim
/-! ### for, while -/
def forL (tg : Tg) (body : ES) : List D → Ev → Sto → R Fl
  | [], env, st => .ok (.nx env) st
  | x :: xs, env, st => match tg.put x env with
    | none => .bad
    | some e1 => match body e1 st with
      | .ok (.nx e) s => forL tg body xs e s
      | .ok (.ct e) s => forL tg body xs e s
      | .ok (.bk e) s => .ok (.nx e) s
      | r => r
def sFor (tg : Tg) (ei : EI) (body : ES) : ES := fun env st => (ei env st).bindS env fun xs s => forL tg body xs env s
theorem ss_for {tg : Tg} {ei : EI} {body : List Stmt} {eb : ES} (hp : PassesOwn (model X.prog X.w) X.A X.env X.xe) (hc : X.calm = true) (hi : SI cl X W t a ei) (hg : SG X t tg) (hb : SSs cl X W body eb) (hs : ∀ x, foldedSetIterable a X.env x = pure x := by intro _; rfl) :
    SS cl X W (.For t a body [] pos) (sFor tg ei eb) := (ps_for hp hc hi hg hb hs).impM fun D σ H h => by
  obtain ⟨G, m, env, st, rl, en, p⟩ := h
  refine ⟨G, m, env, st, rl, en, Post.bindS en p fun xs s1 J H1 G1 m1 e0 e1 rl1 it p1 => ?_⟩
  refine ⟨fun i mm σ2 H2 => mm = xs.length - i ∧ i ≤ xs.length ∧ ∃ G2 m2 env2 st2, Sub G1 G2 ∧ Rl (rc X cl) G2 m2 H2 st2 ∧ EnvR (rc X cl) G2 m2 σ2 env2 ∧ PostS (rc X cl) G2 m2 H2 D W (forL tg eb (xs.drop i) env2 st2), ⟨xs.length, by simp, Nat.zero_le _, G1, m1, env, s1, Sub.refl _, rl1, en.ext e1, by simpa using p1⟩, ?_⟩
  rintro i mm σ2 H2 ⟨rfl, hi, G2, m2, env2, st2, sb, rl2, en2, q⟩
  by_cases hlt : i < xs.length
  · refine .inr ⟨Iters.go it sb rl2 hlt, fun σ3 H3 => ∃ G3 m3 env3 st3, Sub G1 G3 ∧ Rl (rc X cl) G3 m3 H3 st3 ∧ EnvR (rc X cl) G3 m3 σ3 env3 ∧ PostS (rc X cl) G3 m3 H3 D W (forL tg eb (xs.drop (i + 1)) env3 st3), fun σ3 H3 ⟨G3, m3, env3, st3, a1, a2, a3, a4⟩ => ⟨xs.length - (i + 1), by omega, rfl, hlt, G3, m3, env3, st3, a1, a2, a3, a4⟩, fun x H3 y => ?_⟩
    have ei : xs[i]? = some xs[i] := List.getElem?_eq_getElem hlt
    obtain ⟨G3, ex3, rl3, rx⟩ := Iters.yld it sb rl2 y ei
    rw [List.drop_eq_getElem_cons hlt] at q
    simp only [forL] at q
    split at q
    · exact q.elim
    · rename_i env3 e3
      refine Tg.g_of rl3 (en2.ext ex3) rx e3 fun σ4 _ en4 => ⟨G3, m2, env3, st2, rl3, en4, ?_⟩
      have q2 := PostS.ext ex3 q
      cases eb1 : eb env3 st2 with
      | bad => rw [eb1] at q2; exact q2
      | exc e s => rw [eb1] at q2; exact q2
      | ok f s =>
        rw [eb1] at q2
        cases f with
        | nx e => exact fun σ5 H5 G5 m5 ex5 rl5 en5 => ⟨G5, m5, e, s, (sb.trans ex3.sub).trans ex5.sub, rl5, en5, PostS.ext ex5 q2⟩
        | ct e => exact fun σ5 H5 G5 m5 ex5 rl5 en5 => ⟨G5, m5, e, s, (sb.trans ex3.sub).trans ex5.sub, rl5, en5, PostS.ext ex5 q2⟩
        | bk e => exact q2
        | rt v => exact q2
        | ex v w => exact q2
  · have e : i = xs.length := by omega
    subst e
    refine .inl ⟨Iters.stop it sb rl2 (Nat.le_refl _), ?_⟩
    rw [List.drop_length] at q
    exact q σ2 H2 G2 m2 (Ext.refl _ _ _) rl2 en2
end
end Mi
end

section
set_option maxRecDepth 100000
set_option autoImplicit false
namespace Mi
open PySem PySem.Spec L2

theorem RepV.grow {C : RC} {G : Hp} {m m' : List Addr} (pre : ∀ (i : Nat) (a : Addr), m[i]? = some a → m'[i]? = some a) {v : V} {x : Val} (h : RepV C G m v x) : RepV C G m' v x := by
  induction h with
  | d h => exact .d h
  | r h => exact .r (pre _ _ h)
  | s h => exact .s h
  | a h => exact .a h
  | c h _ ih => exact .c h ih
  | f => exact .f
theorem RepV.subG {C : RC} {G G' : Hp} {m : List Addr} (sb : Sub G G') {v : V} {x : Val} (h : RepV C G m v x) : RepV C G' m v x := by
  induction h with
  | d h => exact .d (h.sub sb)
  | r h => exact .r h
  | s h => exact .s (SqL.sub sb h)
  | a h => exact .a fun q hq => let ⟨fs, z⟩ := h q hq; ⟨fs, sb _ _ z⟩
  | c h _ ih => exact .c (h.sub sb) ih
  | f => exact .f
theorem RepVs.grow {C : RC} {G : Hp} {m m' : List Addr} (pre : ∀ (i : Nat) (a : Addr), m[i]? = some a → m'[i]? = some a) : ∀ {vs : List V} {xs : List Val}, RepVs C G m vs xs → RepVs C G m' vs xs
  | _, _, .nil => .nil
  | _, _, .cons h r => by
    refine .cons ?_ (RepVs.grow pre r)
    cases h with
    | d h => exact .d h
    | r h => exact .r (pre _ _ h)
    | s h => exact .s h
    | a h => exact .a h
    | c h k => exact .c h (RepV.grow pre k)
    | f => exact .f
theorem RepVs.subG {C : RC} {G G' : Hp} {m : List Addr} (sb : Sub G G') : ∀ {vs : List V} {xs : List Val}, RepVs C G m vs xs → RepVs C G' m vs xs
  | _, _, .nil => .nil
  | _, _, .cons h r => by
    refine .cons ?_ (RepVs.subG sb r)
    cases h with
    | d h => exact .d (h.sub sb)
    | r h => exact .r h
    | s h => exact .s (SqL.sub sb h)
    | a h => exact .a fun q hq => let ⟨fs, z⟩ := h q hq; ⟨fs, sb _ _ z⟩
    | c h k => exact .c (h.sub sb) (RepV.subG sb k)
    | f => exact .f
/-! ### an object at the side: neither frozen nor of the store -/
def NT (H : Hp) (p : Addr) : Prop := ∀ ps, H p ≠ some (.tbl ps)
theorem nt_none {H : Hp} {p : Addr} (h : H p = none) : NT H p := fun ps z => by rw [h] at z; cases z
theorem nt_of {H : Hp} {p : Addr} {u : HO} (h : H p = some u) (e : isTbl u = false := by rfl) : NT H p := fun ps z => by rw [h] at z; cases z; cases e
theorem TabsOk.subG {C : RC} {G G' : Hp} {m : List Addr} {H : Hp} (t : TabsOk C G m H) (sb : Sub G G') (k : ∀ P ps, H P = some (.tbl ps) → G' P = G P) : TabsOk C G' m H := fun j hj => let ⟨ps, h1, h2, h3, h4, h5⟩ := t j hj; ⟨ps, h1, h2, (k _ _ h1).trans h3, h4, fun pos cv hc => let ⟨c, e1, e2⟩ := h5 pos cv hc; ⟨c, e1, sb _ _ e2⟩⟩
theorem TabsOk.keep {C : RC} {G : Hp} {m : List Addr} {H H' : Hp} (t : TabsOk C G m H) (k : ∀ P ps, H P = some (.tbl ps) → H' P = some (.tbl ps)) : TabsOk C G m H' := fun j hj => let ⟨ps, h1, r⟩ := t j hj; ⟨ps, k _ _ h1, r⟩
section
variable {C : RC} {G : Hp} {m : List Addr} {H : Hp} {st : Sto} {p : Addr}
theorem Rl.side (r : Rl C G m H st) (hm : p ∉ m) (hg : G p = none) (o : HO) (nt : NT H p) : Rl C G m (upd H p o) st := by
  have ne : ∀ a ∈ m, a ≠ p := fun a ha e => hm (e ▸ ha)
  refine ⟨fun a u e => ?_, r.len, r.nd, fun a ha => by rw [upd_ne (ne a ha)]; exact r.liv a ha, r.out, fun i u a e1 e2 => ?_, r.tab.keep fun P ps z => by rw [upd_ne (fun q => by rw [q] at z; exact nt ps z)]; exact z, r.clo⟩
  · rw [upd_ne (fun z => by subst z; rw [hg] at e; cases e)]; exact r.sub _ _ e
  · exact (r.obj i u a e1 e2).mono (Ext.refl G m H) fun z q => by rw [upd_ne (ne a (List.mem_of_getElem? e2))]; exact q
/-- from a state in which p was free -/
theorem Ext.side {G' : Hp} {m' : List Addr} {H' : Hp} (e : Ext G m H G' m' H') (hp : H p = none) (o : HO) : Ext G m H G' m' (upd H' p o) :=
  ⟨e.sub, e.pre, fun a u q hm nt => by rw [upd_ne (ne_of_none q hp)]; exact e.frm a u q hm nt, e.new, e.gn, fun a h => upd_al a (e.al a h)⟩
theorem Rl.laySide {G0 : Hp} {m0 : List Addr} {H0 : Hp} (r : Rl C G m H st) (e : Ext G0 m0 H0 G m H) (h0 : H0 p = none) (hm : p ∉ m) (hg : G p = none) {o : HO} (hp : H p = some o) (nt : isTbl o = false := by rfl) : Rl C (upd G p o) m H st ∧ Ext G0 m0 H0 (upd G p o) m H ∧ Sub G (upd G p o) := by
  have ne : ∀ a ∈ m, a ≠ p := fun a ha e => hm (e ▸ ha)
  have sb : Sub G (upd G p o) := Sub.upd hg
  refine ⟨⟨fun a u e => ?_, r.len, r.nd, r.liv, fun i a u e1 e2 e3 => ?_, fun i u a e1 e2 => ?_, r.tab.subG sb fun P ps z => upd_ne fun q => by rw [q] at z; exact nt_of hp nt ps z, fun a ha o' z => by rw [upd_ne (ne a ha)]; exact r.clo a ha o' z⟩, ⟨e.sub.trans sb, e.pre, fun a o h k nt => e.frm a o h k nt, e.new, fun a z => ?_, e.al⟩, sb⟩
  · by_cases z : a = p
    · subst z; rw [upd_same] at e; cases e; exact hp
    · rw [upd_ne z] at e; exact r.sub _ _ e
  · rw [upd_ne (ne a (List.mem_of_getElem? e1))]; exact r.out i a u e1 e2 e3
  · have q := r.obj i u a e1 e2
    cases u with
    | lst xs => obtain ⟨vs, h1, h2⟩ := q; exact ⟨vs, h1, h2.sub sb⟩
    | dK _ => obtain ⟨vs, h1, h2⟩ := q; exact ⟨vs, h1, h2.sub sb⟩
    | dN _ => obtain ⟨vs, h1, h0, h2⟩ := q; exact ⟨vs, h1, h0, h2.sub sb⟩
    | dL _ => obtain ⟨od, vs, h1, h0, h2⟩ := q; exact ⟨od, vs, sb _ _ h1, h0, h2.sub sb⟩
    | gone => trivial
    | ins c fs => obtain ⟨dx, vs', h1, h2, h3⟩ := q; exact ⟨dx, vs', h1, h2, h3.subG sb⟩
  · by_cases q : a = p
    · subst q; exact .inr (.inr h0)
    · rw [upd_ne q] at z; exact e.gn a z
end

theorem stayG {G G' : Hp} {m m' : List Addr} {H H' : Hp} {p : Addr} (e : Ext G m H G' m' H') (hg : G p = none) (hm : p ∉ m) (hH : H p ≠ none) : G' p = none := by
  cases w : G' p with
  | none => rfl
  | some o =>
    rcases e.gn p (by rw [w]; simp) with z | z | z
    · exact absurd hg z
    · exact absurd z hm
    · exact absurd z hH
/-! ### slots of a comprehension's own -/
def wipeE (env : Ev) : List Nat → Ev
  | [] => env
  | v :: vs => (wipeE env vs).set v none
theorem EnvR.setNone {C : RC} {G : Hp} {m : List Addr} {σ : L2.St} {env : Ev} (h : EnvR C G m σ env) (i : Nat) : EnvR C G m (σ.set i none) (env.set i none) := by
  refine ⟨by simpa using h.1, fun j u q => ?_⟩
  by_cases e : i = j
  · subst e
    by_cases hl : i < env.length
    · rw [List.getElem?_set_self hl] at q; cases q
    · rw [List.getElem?_eq_none (by simpa using hl)] at q; cases q
  · rw [List.getElem?_set_ne e] at q ⊢
    exact h.2 j u q
theorem EnvR.wipe {C : RC} {G : Hp} {m : List Addr} {σ : L2.St} {env : Ev} (h : EnvR C G m σ env) : ∀ vs : List Nat, EnvR C G m (L2.wipe σ vs) (wipeE env vs)
  | [] => h
  | v :: vs => (EnvR.wipe h vs).setNone v
theorem wipe_get (σ : L2.St) : ∀ (vs : List Nat) (i : Nat), (L2.wipe σ vs)[i]? = if i ∈ vs then (if i < σ.length then some none else none) else σ[i]?
  | [], i => by simp [L2.wipe]
  | v :: vs, i => by
    show ((L2.wipe σ vs).set v none)[i]? = _
    by_cases e : v = i
    · subst e
      rw [if_pos List.mem_cons_self]
      by_cases hl : v < σ.length
      · rw [if_pos hl, List.getElem?_set_self (by rw [wipe_length]; exact hl)]
      · rw [if_neg hl, List.getElem?_eq_none (by rw [List.length_set, wipe_length]; omega)]
    · rw [List.getElem?_set_ne e, wipe_get σ vs i]
      have : (i ∈ v :: vs) ↔ (i ∈ vs) := by simp [Ne.symm e]
      simp only [this]
theorem wipe_out {σ σ2 : L2.St} {vs sl : List Nat} (o : Outside sl (L2.wipe σ vs) σ2) (h : ∀ i ∈ sl, i ∈ vs) : L2.wipe σ2 vs = L2.wipe σ vs := by
  apply List.ext_getElem?
  intro i
  rw [wipe_get σ2, wipe_get σ]
  have hl : σ2.length = σ.length := by rw [o.1, wipe_length]
  by_cases hi : i ∈ vs
  · rw [if_pos hi, if_pos hi, hl]
  · rw [if_neg hi, if_neg hi, o.2 i (fun z => hi (h i z)), wipe_get, if_neg hi]
/-! ### list comprehensions -/
def noX {α : Type} : R α → R α
  | .exc _ _ => .bad
  | r => r
abbrev WF : WX := fun _ _ _ _ => False
theorem Post.noX {α β : Type} {C : RC} {rel : Hp → List Addr → β → α → Prop} {G : Hp} {m : List Addr} {H : Hp} {Q : β → Hp → Prop} {W : XW} {x : R α} (h : Post C rel G m H Q W (Mi.noX x)) : Post C rel G m H Q (fun _ _ _ => False) x := by
  cases x with
  | ok v s => exact h
  | exc e s => exact h.elim
  | bad => exact h
def kYes : ET := fun _ st => .ok true st
def compL (tg : Tg) (tt : ET) (ee : EE) (env : Ev) : List D → Sto → R (List D)
  | [], st => .ok [] st
  | x :: xs, st => match tg.put x env with
    | none => .bad
    | some e1 => (noX (tt e1 st)).bind fun b s1 => match b with
      | false => compL tg tt ee env xs s1
      | true => (noX (ee e1 s1)).bind fun v s2 => match toD v s2 with
        | some (d, s3) => (compL tg tt ee env xs s3).bind fun ds s4 => .ok (d :: ds) s4
        | none => .bad
abbrev STs (cl : Nat → Addr) (X : Cx) (W : WX) (ifs : List Expr) (ev : ET) : Prop := PTs X ifs (tT (rc X cl) W ev)
section
variable {cl : Nat → Addr} {X : Cx} {W : WX} {pos : Pos} {t a c elt : Expr} {ifs : List Expr} {ei : EI} {tg : Tg} {tt : ET} {ee : EE}
theorem sts_nil : STs cl X W [] kYes := by
  refine ⟨fun pins s σ H Q I h => pts_nil.run pins s σ H Q I ?_⟩
  obtain ⟨G, m, env, st, rl, en, p⟩ := h
  exact p true H G m (Ext.refl _ _ _) rl rfl
theorem R.bind_assoc {α β γ : Type} (x : R α) (f : α → Sto → R β) (g : β → Sto → R γ) : (x.bind f).bind g = x.bind fun a s => (f a s).bind g := by cases x <;> rfl
/-- the loop of one clause, the new list at D -/
theorem lc_ok {vs : List Nat} {σ : L2.St} {env : Ev} {G0 : Hp} {m0 : List Addr} {H0 : Hp} {s0 : Sto} {J : It} {xs : List D} {Q : VK} {fz : List D → Sto → R Val} {D' : Addr} (hsl : ∀ i ∈ tg.slots, i ∈ vs) (it : Iters (rc X cl) G0 J xs) (rl0 : Rl (rc X cl) G0 m0 H0 s0) (en : EnvR (rc X cl) G0 m0 σ env) (hD : H0 D' = none) (hsm : small xs.length = true)
    (p : Post (rc X cl) (RepV (rc X cl)) G0 m0 H0 Q (fun _ _ _ => False) ((compL tg tt ee (wipeE env vs) xs s0).bind fz))
    (hf : ∀ ds st vs' G m H, fz ds st ≠ .bad → Ext G0 m0 H0 G m H → Rl (rc X cl) G m H st → D' ∉ m → G D' = none → H D' = some (.lst vs') → RepAll (rc X cl) G vs' ds → Post (rc X cl) (RepV (rc X cl)) G0 m0 H0 Q (fun _ _ _ => False) (fz ds st) → Q (.ref D') H) :
    ∃ Wv : Nat → Nat → Hp → Prop, (∃ k, Wv 0 k (upd H0 D' (.lst []))) ∧ ∀ i k H, Wv i k H → (J.stop i H ∧ Q (.ref D') H) ∨ (J.go i H ∧ ∃ Nx : Hp → Prop, (∀ H', Nx H' → ∃ k', k' < k ∧ Wv (i + 1) k' H') ∧ ∀ x H', J.yld i H x H' → tg.g X.K x (L2.wipe σ vs) H' fun σ2 H2 => L2.wipe σ2 vs = L2.wipe σ vs ∧
      tT (rc X cl) WF tt σ2 H2 fun b H3 => if b = true then tE (rc X cl) WF ee σ2 H3 fun y H4 => ∃ acc, H4 D' = some (.lst acc) ∧ acc.length < sizeLine ∧ Nx (upd H4 D' (.lst (acc ++ [y]))) else Nx H3) := by
  have line : xs.length < sizeLine := by
    have h := of_decide_eq_true hsm
    rw [sizeLine_eq]; omega
  let St : Nat → Hp → Prop := fun i H => ∃ G m st vs' acc, Ext G0 m0 H0 G m H ∧ Rl (rc X cl) G m H st ∧ D' ∉ m ∧ G D' = none ∧ H D' = some (.lst vs') ∧ RepAll (rc X cl) G vs' acc ∧ acc.length ≤ i ∧
    Post (rc X cl) (RepV (rc X cl)) G0 m0 H0 Q (fun _ _ _ => False) ((compL tg tt ee (wipeE env vs) (xs.drop i) st).bind fun ds s => fz (acc ++ ds) s)
  refine ⟨fun i k H => k = xs.length - i ∧ i ≤ xs.length ∧ St i H, ⟨xs.length, by simp, Nat.zero_le _, G0, m0, s0, [], [], (Ext.refl _ _ _).side hD _, rl0.side (rl0.notin hD) (rl0.freeG hD) _ (nt_none hD), rl0.notin hD, rl0.freeG hD, upd_same, .nil, Nat.le_refl _, by simpa using p⟩, ?_⟩
  rintro i k H ⟨rfl, hi, G, m, st, vs', acc, ex, rl, hm, hg, hH, ra, hacc, q⟩
  by_cases hlt : i < xs.length
  · refine .inr ⟨Iters.go it ex.sub rl hlt, St (i + 1), fun H' z => ⟨xs.length - (i + 1), by omega, rfl, hlt, z⟩, fun x H1 y => ?_⟩
    obtain ⟨G1, ex1, rl1, rx⟩ := Iters.yld it ex.sub rl y (List.getElem?_eq_getElem hlt)
    have h1D : H1 D' = some (.lst vs') := ex1.frm _ _ hH hm
    rw [List.drop_eq_getElem_cons hlt] at q
    simp only [compL] at q
    split at q
    · exact q.elim
    · rename_i e1 ee1
      have en1 : EnvR (rc X cl) G1 m (L2.wipe σ vs) (wipeE env vs) := ((en.ext ex).ext ex1).wipe vs
      refine Tg.g_of rl1 en1 rx ee1 fun σ2 o2 en2 => ⟨wipe_out o2 hsl, G1, m, e1, st, rl1, en2, ?_⟩
      rw [R.bind_assoc] at q
      have q1 : Post (rc X cl) (RepV (rc X cl)) G0 m0 H0 Q (fun _ _ _ => False) _ := q
      cases et : tt e1 st with
      | bad => rw [et] at q; exact q.elim
      | exc e s => rw [et] at q; exact q.elim
      | ok b s1 =>
        rw [et] at q
        intro b' H2 G2 m2 ex2 rl2 rb
        cases (show b' = b from rb)
        have h2D : H2 D' = some (.lst vs') := ex2.frm _ _ h1D hm
        have hm2 : D' ∉ m2 := fun z => (ex2.new _ z).elim hm (fun w => by rw [h1D] at w; cases w)
        have hg2 : G2 D' = none := stayG (ex1.trans ex2) hg hm (by rw [hH]; simp)
        cases b with
        | false =>
          rw [if_neg (by decide)]
          exact ⟨G2, m2, s1, vs', acc, (ex.trans ex1).trans ex2, rl2, hm2, hg2, h2D, (ra.sub ex1.sub).sub ex2.sub, by omega, q⟩
        | true =>
          rw [if_pos rfl]
          refine ⟨G2, m2, e1, s1, rl2, en2.ext ex2, ?_⟩
          simp only [R.bind_ok, noX] at q
          cases ev : ee e1 s1 with
          | bad => rw [ev] at q; exact q.elim
          | exc e s => rw [ev] at q; exact q.elim
          | ok v s2 =>
            rw [ev] at q
            intro yv H3 G3 m3 ex3 rl3 ry
            simp only [R.bind_ok, noX] at q
            split at q
            · rename_i d s3 ed
              obtain ⟨G4, rl4, ex4, rd⟩ := toD_rep rl3 ry ed
              have h3D : H3 D' = some (.lst vs') := ex3.frm _ _ h2D hm2
              have hm3 : D' ∉ m3 := fun z => (ex3.new _ z).elim hm2 (fun w => by rw [h2D] at w; cases w)
              have hg4 : G4 D' = none := stayG (ex3.trans ex4) hg2 hm2 (by rw [h2D]; simp)
              refine ⟨vs', h3D, by rw [ra.length]; omega, G4, m3, s3, vs' ++ [yv], acc ++ [d], ((((ex.trans ex1).trans ex2).trans ex3).trans ex4).side hD _, rl4.side hm3 hg4 _ (nt_of h3D), hm3, hg4, upd_same, ((((ra.sub ex1.sub).sub ex2.sub).sub ex3.sub).sub ex4.sub).append (.cons rd .nil), by simp; omega, ?_⟩
              rw [R.bind_assoc] at q
              simpa [R.bind_ok] using q
            · exact q.elim
  · have e : i = xs.length := by omega
    subst e
    refine .inl ⟨Iters.stop it ex.sub rl (Nat.le_refl _), ?_⟩
    rw [List.drop_length] at q
    simp only [compL, R.bind_ok, List.append_nil] at q
    exact hf acc st vs' G m H (fun z => by rw [z] at q; exact q) ex rl hm hg hH ra q
def eLc (vs : List Nat) (tg : Tg) (ei : EI) (tt : ET) (ee : EE) : EE := fun env st => (ei env st).bind fun xs s => if small xs.length = true then (compL tg tt ee (wipeE env vs) xs s).bind fun ds s2 => .ok (.d (.list ds)) s2 else .bad
/-- a list that may be changed -/
def eLcR (vs : List Nat) (tg : Tg) (ei : EI) (tt : ET) (ee : EE) : EE := fun env st => (ei env st).bind fun xs s => if small xs.length = true then (compL tg tt ee (wipeE env vs) xs s).bind fun ds s2 => .ok (.r s2.length) (s2 ++ [.lst ds]) else .bad
theorem compL_noX (env : Ev) : ∀ (xs : List D) (st : Sto) (e : Exn) (s : Sto), compL tg tt ee env xs st ≠ .exc e s
  | [], st, e, s => by simp [compL]
  | x :: xs, st, e, s => by
    simp only [compL]
    split
    · simp
    · rename_i e1 _
      cases tt e1 st with
      | bad => simp [noX]
      | exc _ _ => simp [noX]
      | ok b s1 =>
        simp only [noX, R.bind_ok]
        cases b with
        | false => exact compL_noX env xs s1 e s
        | true =>
          cases ee e1 s1 with
          | bad => simp [noX]
          | exc _ _ => simp [noX]
          | ok v s2 =>
            simp only [noX, R.bind_ok]
            split
            · rename_i d s3 _
              cases q : compL tg tt ee env xs s3 with
              | ok _ _ => simp
              | bad => simp
              | exc e' s' => exact absurd q (compL_noX env xs s3 e' s')
            · simp
theorem lc_post {vs : List Nat} {σ : L2.St} {H : Hp} {Q : VK} {fz : List D → Sto → R Val} (hfz : ∀ ds s, ∃ v s', fz ds s = .ok v s') (hsl : ∀ i ∈ tg.slots, i ∈ vs)
    (h : tE (rc X cl) W (fun env st => (ei env st).bind fun xs s => if small xs.length = true then (compL tg tt ee (wipeE env vs) xs s).bind fz else .bad) σ H Q)
    (hf : ∀ ds st vs' G0 m0 H0 G m H D', H0 D' = none → Ext G0 m0 H0 G m H → Rl (rc X cl) G m H st → D' ∉ m → G D' = none → H D' = some (.lst vs') → RepAll (rc X cl) G vs' ds → Post (rc X cl) (RepV (rc X cl)) G0 m0 H0 Q (fun _ _ _ => False) (fz ds st) → Q (.ref D') H) :
    tLc (tI (rc X cl) W ei) (tg.g X.K) (tT (rc X cl) WF tt) (tE (rc X cl) WF ee) vs σ H Q := by
  obtain ⟨G, m, env, st, rl, en, p⟩ := h
  refine ⟨G, m, env, st, rl, en, Post.bindE p fun xs s1 J H1 G1 m1 e0 e1 rl1 it p1 => fun D' hD => ?_⟩
  split at p1
  · rename_i hs
    refine lc_ok (fz := fz) hsl it rl1 (en.ext e1) hD hs ?_ fun ds st2 vs' G2 m2 H2 _ ex r2 a1 a2 a3 a4 a5 => hf ds st2 vs' G1 m1 H1 G2 m2 H2 D' hD ex r2 a1 a2 a3 a4 a5
    cases q : compL tg tt ee (wipeE env vs) xs s1 with
    | bad => rw [q] at p1; exact p1
    | exc e s => exact absurd q (compL_noX _ _ _ _ _)
    | ok ds s2 =>
      rw [q] at p1
      obtain ⟨v, s', e⟩ := hfz ds s2
      simp only [R.bind_ok, e] at p1 ⊢
      exact p1
  · exact p1.elim
variable {scope : Scope} {own : List (Str × Nat)}
theorem se_lc (hc : X.calm = true) (hN : X.N.Nodup) (hi : SI cl X W t a ei) (ok : BlkOk X.N X.env.scope scope own) (hg : ∀ (s : Shared) (H : Hp) (C : Addr) (cc : List (Str × Addr)) (fp : List Addr), SG (X.blk s H scope (compEnvC scope cc C X.env) fp) t tg)
    (ht : ∀ (s : Shared) (H : Hp) (C : Addr) (cc : List (Str × Addr)) (fp : List Addr), STs cl (X.blk s H scope (compEnvC scope cc C X.env) fp) WF ifs tt)
    (he : ∀ (s : Shared) (H : Hp) (C : Addr) (cc : List (Str × Addr)) (fp : List Addr), SE cl (X.blk s H scope (compEnvC scope cc C X.env) fp) WF elt ee) (hsl : ∀ i ∈ tg.slots, i ∈ own.map (·.2)) (hs : ∀ x, foldedSetIterable a X.env x = pure x := by intro _; rfl) :
    SE cl X W (.ListComp elt [⟨t, a, ifs, 0⟩] scope pos) (eLc (own.map (·.2)) tg ei tt ee) := (pe_lc hc hN hi ok hg ht he hs).impM fun σ H Q h =>
  lc_post (fun ds s => ⟨_, _, rfl⟩) hsl h fun ds st vs' G0 m0 H0 G m H D' h0 ex rl hm hg hH ra p => by
    obtain ⟨r2, ex2, sb⟩ := rl.laySide ex h0 hm hg hH
    exact p _ H _ m ex2 r2 (.d (.lst upd_same (ra.sub sb)))
/-- name = [..] -/
theorem ss_setLc {y : Str} {py spos : Pos} (i : Nat) (hc : X.calm = true) (hN : X.N.Nodup) (hy : X.N[i]? = some y) (hyl : X.env.scope.names.lookup y = some .local) (hsw : swapsWith (.ListComp elt [⟨t, a, ifs, 0⟩] scope pos) (some (.Name y py)) spos.line X.env = pure true)
    (hi : SI cl X W t a ei) (ok : BlkOk X.N X.env.scope scope own) (hg : ∀ (s : Shared) (H : Hp) (C : Addr) (cc : List (Str × Addr)) (fp : List Addr), SG (X.blk s H scope (compEnvC scope cc C X.env) fp) t tg)
    (ht : ∀ (s : Shared) (H : Hp) (C : Addr) (cc : List (Str × Addr)) (fp : List Addr), STs cl (X.blk s H scope (compEnvC scope cc C X.env) fp) WF ifs tt)
    (he : ∀ (s : Shared) (H : Hp) (C : Addr) (cc : List (Str × Addr)) (fp : List Addr), SE cl (X.blk s H scope (compEnvC scope cc C X.env) fp) WF elt ee) (hsl : ∀ i ∈ tg.slots, i ∈ own.map (·.2)) (hs : ∀ x, foldedSetIterable a X.env x = pure x := by intro _; rfl) :
    SS cl X W (.Assign [.Name y py] (.ListComp elt [⟨t, a, ifs, 0⟩] scope pos) spos) (sSet i (eLc (own.map (·.2)) tg ei tt ee)) := (ps_setLc hc hN hy hyl hsw hi ok hg ht he hs).impM fun D σ H h => by
  obtain ⟨G, m, env, st, rl, en, p⟩ := h
  refine lc_post (Q := fun x H1 => gName i x σ H1 D.nx) (fun ds s => ⟨_, _, rfl⟩) hsl ⟨G, m, env, st, rl, en, Post.bindS en p fun v s1 x H1 G1 m1 _ e1 rl1 r1 p1 => p1 _ H1 G1 m1 (Ext.refl _ _ _) rl1 ((en.ext e1).set r1 i)⟩ fun ds st vs' G0 m0 H0 G m H D' h0 ex rl hm hg hH ra p => ?_
  obtain ⟨r2, ex2, sb⟩ := rl.laySide ex h0 hm hg hH
  exact p _ H _ m ex2 r2 (.d (.lst upd_same (ra.sub sb)))
end
end Mi
end

section
set_option maxRecDepth 100000
set_option autoImplicit false
namespace Mi
open PySem PySem.Spec L2

/-! ### two clauses -/
def compL2 (tg : Tg) (tt : ET) (ei1 : EI) (vs1 : List Nat) (tg1 : Tg) (tt1 : ET) (ee : EE) (env : Ev) : List D → Sto → R (List D)
  | [], st => .ok [] st
  | x :: xs, st => match tg.put x env with
    | none => .bad
    | some e1 => (noX (tt e1 st)).bind fun b s1 => match b with
      | false => compL2 tg tt ei1 vs1 tg1 tt1 ee env xs s1
      | true => (noX (ei1 e1 s1)).bind fun ys s2 => (compL tg1 tt1 ee (wipeE e1 vs1) ys s2).bind fun ds s3 => (compL2 tg tt ei1 vs1 tg1 tt1 ee env xs s3).bind fun es s4 => .ok (ds ++ es) s4
section
variable {cl : Nat → Addr} {X : Cx} {W : WX} {pos : Pos} {t a t1 a1 c elt : Expr} {ifs ifs1 : List Expr} {ei ei1 : EI} {tg tg1 : Tg} {tt tt1 : ET} {ee : EE}
theorem lc_in {vs1 : List Nat} {σ2 : L2.St} {e1 : Ev} {G0 Gi : Hp} {m0 mi : List Addr} {H0 Hi : Hp} {J : It} {ys : List D} {Q : VK} {K : List D → Sto → R Val} {D' : Addr} {Nx : Hp → Prop} (hsl : ∀ i ∈ tg1.slots, i ∈ vs1) (it : Iters (rc X cl) Gi J ys) (hD : H0 D' = none) (en : EnvR (rc X cl) Gi mi σ2 e1)
    (hK : ∀ l s, Post (rc X cl) (RepV (rc X cl)) G0 m0 H0 Q (fun _ _ _ => False) (K l s) → l.length ≤ 1000000)
    (hNx : ∀ G m H st vs' acc, Ext Gi mi Hi G m H ∨ Sub Gi G → Ext G0 m0 H0 G m H → Rl (rc X cl) G m H st → D' ∉ m → G D' = none → H D' = some (.lst vs') → RepAll (rc X cl) G vs' acc → Post (rc X cl) (RepV (rc X cl)) G0 m0 H0 Q (fun _ _ _ => False) (K acc st) → Nx H)
    {st0 : Sto} {vs0 : List V} {acc0 : List D} (ex0 : Ext G0 m0 H0 Gi mi Hi) (rl0 : Rl (rc X cl) Gi mi Hi st0) (hm0 : D' ∉ mi) (hg0 : Gi D' = none) (hH0 : Hi D' = some (.lst vs0)) (ra0 : RepAll (rc X cl) Gi vs0 acc0)
    (p : Post (rc X cl) (RepV (rc X cl)) G0 m0 H0 Q (fun _ _ _ => False) ((compL tg1 tt1 ee (wipeE e1 vs1) ys st0).bind fun ds s => K (acc0 ++ ds) s)) :
    ∃ W1 : Nat → Nat → Hp → Prop, (∃ k, W1 0 k Hi) ∧ ∀ j k H, W1 j k H → (J.stop j H ∧ Nx H) ∨ (J.go j H ∧ ∃ Nx1 : Hp → Prop, (∀ H', Nx1 H' → ∃ k', k' < k ∧ W1 (j + 1) k' H') ∧ ∀ x H', J.yld j H x H' → tg1.g X.K x (L2.wipe σ2 vs1) H' fun σ3 H5 => L2.wipe σ3 vs1 = L2.wipe σ2 vs1 ∧
      tT (rc X cl) WF tt1 σ3 H5 fun b H6 => if b = true then tE (rc X cl) WF ee σ3 H6 fun y H7 => ∃ acc, H7 D' = some (.lst acc) ∧ acc.length < sizeLine ∧ Nx1 (upd H7 D' (.lst (acc ++ [y]))) else Nx1 H6) := by
  let St : Nat → Hp → Prop := fun i H => ∃ G m st vs' acc, Sub Gi G ∧ (∀ (i : Nat) (a : Addr), mi[i]? = some a → m[i]? = some a) ∧ Ext G0 m0 H0 G m H ∧ Rl (rc X cl) G m H st ∧ D' ∉ m ∧ G D' = none ∧ H D' = some (.lst vs') ∧ RepAll (rc X cl) G vs' acc ∧
    Post (rc X cl) (RepV (rc X cl)) G0 m0 H0 Q (fun _ _ _ => False) ((compL tg1 tt1 ee (wipeE e1 vs1) (ys.drop i) st).bind fun ds s => K (acc ++ ds) s)
  refine ⟨fun i k H => k = ys.length - i ∧ i ≤ ys.length ∧ St i H, ⟨ys.length, by simp, Nat.zero_le _, Gi, mi, st0, vs0, acc0, Sub.refl _, fun _ _ z => z, ex0, rl0, hm0, hg0, hH0, ra0, by simpa using p⟩, ?_⟩
  rintro i k H ⟨rfl, hi, G, m, st, vs', acc, sb, pre, ex, rl, hm, hg, hH, ra, q⟩
  by_cases hlt : i < ys.length
  · refine .inr ⟨Iters.go it sb rl hlt, St (i + 1), fun H' z => ⟨ys.length - (i + 1), by omega, rfl, hlt, z⟩, fun x H1 y => ?_⟩
    obtain ⟨G1, ex1, rl1, rx⟩ := Iters.yld it sb rl y (List.getElem?_eq_getElem hlt)
    have h1D : H1 D' = some (.lst vs') := ex1.frm _ _ hH hm
    rw [List.drop_eq_getElem_cons hlt] at q
    simp only [compL] at q
    split at q
    · exact q.elim
    · rename_i e2 ee1
      have enG : EnvR (rc X cl) G m σ2 e1 := ⟨en.1, fun i v z => by
        obtain ⟨x, h1, h2⟩ := en.2 i v z
        refine ⟨x, h1, ?_⟩
        exact (h2.subG sb).grow pre⟩
      have en1 : EnvR (rc X cl) G1 m (L2.wipe σ2 vs1) (wipeE e1 vs1) := (enG.ext ex1).wipe vs1
      refine Tg.g_of rl1 en1 rx ee1 fun σ3 o2 en2 => ⟨wipe_out o2 hsl, G1, m, e2, st, rl1, en2, ?_⟩
      rw [R.bind_assoc] at q
      cases et : tt1 e2 st with
      | bad => rw [et] at q; exact q.elim
      | exc e s => rw [et] at q; exact q.elim
      | ok b s1 =>
        rw [et] at q
        intro b' H2 G2 m2 ex2 rl2 rb
        cases (show b' = b from rb)
        have h2D : H2 D' = some (.lst vs') := ex2.frm _ _ h1D hm
        have hm2 : D' ∉ m2 := fun z => (ex2.new _ z).elim hm (fun w => by rw [h1D] at w; cases w)
        have hg2 : G2 D' = none := stayG (ex1.trans ex2) hg hm (by rw [hH]; simp)
        cases b with
        | false =>
          rw [if_neg (by decide)]
          exact ⟨G2, m2, s1, vs', acc, (sb.trans ex1.sub).trans ex2.sub, fun i a z => ex2.pre i a (pre i a z), (ex.trans ex1).trans ex2, rl2, hm2, hg2, h2D, (ra.sub ex1.sub).sub ex2.sub, q⟩
        | true =>
          rw [if_pos rfl]
          refine ⟨G2, m2, e2, s1, rl2, en2.ext ex2, ?_⟩
          simp only [R.bind_ok, noX] at q
          cases ev : ee e2 s1 with
          | bad => rw [ev] at q; exact q.elim
          | exc e s => rw [ev] at q; exact q.elim
          | ok v s2 =>
            rw [ev] at q
            intro yv H3 G3 m3 ex3 rl3 ry
            simp only [R.bind_ok, noX] at q
            split at q
            · rename_i d s3 ed
              obtain ⟨G4, rl4, ex4, rd⟩ := toD_rep rl3 ry ed
              have h3D : H3 D' = some (.lst vs') := ex3.frm _ _ h2D hm2
              have hm3 : D' ∉ m3 := fun z => (ex3.new _ z).elim hm2 (fun w => by rw [h2D] at w; cases w)
              have hg4 : G4 D' = none := stayG (ex3.trans ex4) hg2 hm2 (by rw [h2D]; simp)
              rw [R.bind_assoc] at q
              have line : vs'.length < sizeLine := by
                cases qc : compL tg1 tt1 ee (wipeE e1 vs1) (ys.drop (i + 1)) s3 with
                | bad => rw [qc] at q; exact q.elim
                | exc e s => exact absurd qc (compL_noX _ _ _ _ _)
                | ok ds s4 =>
                  rw [qc] at q
                  have z := hK _ _ q
                  rw [sizeLine_eq, ra.length]
                  simp at z; omega
              refine ⟨vs', h3D, line, G4, m3, s3, vs' ++ [yv], acc ++ [d], ((sb.trans ex1.sub).trans ex2.sub).trans (ex3.sub.trans ex4.sub), fun i a z => ex3.pre i a (ex2.pre i a (pre i a z)), ((((ex.trans ex1).trans ex2).trans ex3).trans ex4).side hD _, rl4.side hm3 hg4 _ (nt_of h3D), hm3, hg4, upd_same, ((((ra.sub ex1.sub).sub ex2.sub).sub ex3.sub).sub ex4.sub).append (.cons rd .nil), ?_⟩
              simpa [R.bind_ok] using q
            · exact q.elim
  · have e : i = ys.length := by omega
    subst e
    refine .inl ⟨Iters.stop it sb rl (Nat.le_refl _), ?_⟩
    rw [List.drop_length] at q
    simp only [compL, R.bind_ok, List.append_nil] at q
    exact hNx G m H st vs' acc (.inr sb) ex rl hm hg hH ra q
def eLc2 (vs vs1 : List Nat) (tg : Tg) (ei : EI) (tt : ET) (tg1 : Tg) (ei1 : EI) (tt1 : ET) (ee : EE) : EE := fun env st => (ei env st).bind fun xs s => (compL2 tg tt ei1 vs1 tg1 tt1 ee (wipeE env vs) xs s).bind fun ds s2 => if small ds.length = true then .ok (.d (.list ds)) s2 else .bad
theorem compL2_noX {vs1 : List Nat} (env : Ev) : ∀ (xs : List D) (st : Sto) (e : Exn) (s : Sto), compL2 tg tt ei1 vs1 tg1 tt1 ee env xs st ≠ .exc e s
  | [], st, e, s => by simp [compL2]
  | x :: xs, st, e, s => by
    simp only [compL2]
    split
    · simp
    · rename_i e1 _
      cases tt e1 st with
      | bad => simp [noX]
      | exc _ _ => simp [noX]
      | ok b s1 =>
        simp only [noX, R.bind_ok]
        cases b with
        | false => exact compL2_noX env xs s1 e s
        | true =>
          cases ei1 e1 s1 with
          | bad => simp [noX]
          | exc _ _ => simp [noX]
          | ok ys s2 =>
            simp only [noX, R.bind_ok]
            cases q : compL tg1 tt1 ee (wipeE e1 vs1) ys s2 with
            | bad => simp
            | exc e' s' => exact absurd q (compL_noX _ _ _ _ _)
            | ok ds s3 =>
              simp only [R.bind_ok]
              cases q : compL2 tg tt ei1 vs1 tg1 tt1 ee env xs s3 with
              | ok _ _ => simp
              | bad => simp
              | exc e' s' => exact absurd q (compL2_noX env xs s3 e' s')
theorem lc2_post {vs vs1 : List Nat} {σ : L2.St} {H : Hp} {Q : VK} (hsl : ∀ i ∈ tg.slots, i ∈ vs) (hsl1 : ∀ i ∈ tg1.slots, i ∈ vs1)
    (h : tE (rc X cl) W (eLc2 vs vs1 tg ei tt tg1 ei1 tt1 ee) σ H Q) :
    tLc2 (tI (rc X cl) W ei) (tg.g X.K) (tT (rc X cl) WF tt) (tI (rc X cl) WF ei1) (tg1.g X.K) (tT (rc X cl) WF tt1) (tE (rc X cl) WF ee) vs vs1 σ H Q := by
  obtain ⟨G, m, env, st, rl, en, p⟩ := h
  refine ⟨G, m, env, st, rl, en, Post.bindE p fun xs s1 J H1 G1 m1 e0 e1 rl1 it p1 => fun D' hD => ?_⟩
  have en1 := en.ext e1
  let fz : List D → Sto → R Val := fun ds s2 => if small ds.length = true then .ok (.d (.list ds)) s2 else .bad
  have p2 : Post (rc X cl) (RepV (rc X cl)) G1 m1 H1 Q (fun _ _ _ => False) ((compL2 tg tt ei1 vs1 tg1 tt1 ee (wipeE env vs) xs s1).bind fz) := by
    cases q : compL2 tg tt ei1 vs1 tg1 tt1 ee (wipeE env vs) xs s1 with
    | bad => rw [q] at p1; exact p1
    | exc e s => exact absurd q (compL2_noX _ _ _ _ _)
    | ok ds s2 =>
      rw [q] at p1
      show Post _ _ _ _ _ _ _ (if small ds.length = true then _ else _)
      simp only [R.bind_ok] at p1
      split
      · rename_i hs; rw [if_pos hs] at p1; exact p1
      · rename_i hs; rw [if_neg hs] at p1; exact p1
  have hfz : ∀ l s, Post (rc X cl) (RepV (rc X cl)) G1 m1 H1 Q (fun _ _ _ => False) (fz l s) → l.length ≤ 1000000 := fun l s z => by
    show l.length ≤ _
    by_cases hs : small l.length = true
    · exact of_decide_eq_true hs
    · have : fz l s = .bad := if_neg hs
      rw [this] at z; exact z.elim
  let St : Nat → Hp → Prop := fun i H => ∃ G m st vs' acc, Ext G1 m1 H1 G m H ∧ Rl (rc X cl) G m H st ∧ D' ∉ m ∧ G D' = none ∧ H D' = some (.lst vs') ∧ RepAll (rc X cl) G vs' acc ∧
    Post (rc X cl) (RepV (rc X cl)) G1 m1 H1 Q (fun _ _ _ => False) ((compL2 tg tt ei1 vs1 tg1 tt1 ee (wipeE env vs) (xs.drop i) st).bind fun ds s => fz (acc ++ ds) s)
  refine ⟨fun i k H => k = xs.length - i ∧ i ≤ xs.length ∧ St i H, ⟨xs.length, by simp, Nat.zero_le _, G1, m1, s1, [], [], (Ext.refl _ _ _).side hD _, rl1.side (rl1.notin hD) (rl1.freeG hD) _ (nt_none hD), rl1.notin hD, rl1.freeG hD, upd_same, .nil, by simpa using p2⟩, ?_⟩
  rintro i k H ⟨rfl, hi, G, m, st, vs', acc, ex, rl, hm, hg, hH, ra, q⟩
  by_cases hlt : i < xs.length
  · refine .inr ⟨Iters.go it ex.sub rl hlt, St (i + 1), fun H' z => ⟨xs.length - (i + 1), by omega, rfl, hlt, z⟩, fun x H2 y => ?_⟩
    obtain ⟨G2, ex2, rl2, rx⟩ := Iters.yld it ex.sub rl y (List.getElem?_eq_getElem hlt)
    have h2D : H2 D' = some (.lst vs') := ex2.frm _ _ hH hm
    rw [List.drop_eq_getElem_cons hlt] at q
    simp only [compL2] at q
    split at q
    · exact q.elim
    · rename_i e2 ee1
      have en2 : EnvR (rc X cl) G2 m (L2.wipe σ vs) (wipeE env vs) := ((en1.ext ex).ext ex2).wipe vs
      refine Tg.g_of rl2 en2 rx ee1 fun σ2 o2 en3 => ⟨wipe_out o2 hsl, G2, m, e2, st, rl2, en3, ?_⟩
      rw [R.bind_assoc] at q
      cases et : tt e2 st with
      | bad => rw [et] at q; exact q.elim
      | exc e s => rw [et] at q; exact q.elim
      | ok b s2 =>
        rw [et] at q
        intro b' H3 G3 m3 ex3 rl3 rb
        cases (show b' = b from rb)
        have h3D : H3 D' = some (.lst vs') := ex3.frm _ _ h2D hm
        have hm3 : D' ∉ m3 := fun z => (ex3.new _ z).elim hm (fun w => by rw [h2D] at w; cases w)
        have hg3 : G3 D' = none := stayG (ex2.trans ex3) hg hm (by rw [hH]; simp)
        cases b with
        | false =>
          rw [if_neg (by decide)]
          exact ⟨G3, m3, s2, vs', acc, (ex.trans ex2).trans ex3, rl3, hm3, hg3, h3D, (ra.sub ex2.sub).sub ex3.sub, q⟩
        | true =>
          rw [if_pos rfl]
          refine ⟨G3, m3, e2, s2, rl3, en3.ext ex3, ?_⟩
          simp only [R.bind_ok, noX] at q
          cases ev : ei1 e2 s2 with
          | bad => rw [ev] at q; exact q.elim
          | exc e s => rw [ev] at q; exact q.elim
          | ok ys s3 =>
            rw [ev] at q
            intro J1 H4 G4 m4 ex4 rl4 it1
            simp only [R.bind_ok, noX] at q
            have h4D : H4 D' = some (.lst vs') := ex4.frm _ _ h3D hm3
            have hm4 : D' ∉ m4 := fun z => (ex4.new _ z).elim hm3 (fun w => by rw [h3D] at w; cases w)
            have hg4 : G4 D' = none := stayG ex4 hg3 hm3 (by rw [h3D]; simp)
            refine lc_in (K := fun l s => (compL2 tg tt ei1 vs1 tg1 tt1 ee (wipeE env vs) (xs.drop (i + 1)) s).bind fun es s4 => fz (l ++ es) s4) (G0 := G1) (m0 := m1) (H0 := H1) (Q := Q) (acc0 := acc) hsl1 it1 hD ((en3.ext ex3).ext ex4) (fun l s z => ?_) (fun Ga ma Ha sa va ac _ exa rla hma hga hHa raa pa => ⟨Ga, ma, sa, va, ac, exa, rla, hma, hga, hHa, raa, pa⟩)
              ((((ex.trans ex2).trans ex3).trans ex4)) rl4 hm4 hg4 h4D (((ra.sub ex2.sub).sub ex3.sub).sub ex4.sub) ?_
            · cases qc : compL2 tg tt ei1 vs1 tg1 tt1 ee (wipeE env vs) (xs.drop (i + 1)) s with
              | bad => rw [qc] at z; exact z.elim
              | exc e s => exact absurd qc (compL2_noX _ _ _ _ _)
              | ok es s4 =>
                rw [qc] at z
                have := hfz _ _ z
                simp at this; omega
            · rw [R.bind_assoc] at q
              simpa [R.bind_assoc, R.bind_ok] using q
  · have e : i = xs.length := by omega
    subst e
    refine .inl ⟨Iters.stop it ex.sub rl (Nat.le_refl _), ?_⟩
    rw [List.drop_length] at q
    simp only [compL2, R.bind_ok, List.append_nil] at q
    have q' : Post (rc X cl) (RepV (rc X cl)) G1 m1 H1 Q (fun _ _ _ => False) (fz acc st) := q
    by_cases hs : small acc.length = true
    · have : fz acc st = .ok (.d (.list acc)) st := if_pos hs
      rw [this] at q'
      obtain ⟨r2, ex2, sb⟩ := rl.laySide ex hD hm hg hH
      exact q' _ H _ m ex2 r2 (.d (.lst upd_same (ra.sub sb)))
    · have : fz acc st = .bad := if_neg hs
      rw [this] at q'; exact q'.elim
variable {scope : Scope} {own : List (Str × Nat)} {vs1 : List Nat}
theorem se_lc2 (hc : X.calm = true) (hN : X.N.Nodup) (hi : SI cl X W t a ei) (ok : BlkOk X.N X.env.scope scope own) (hv : ∀ i ∈ vs1, i ∈ own.map (·.2)) (hg : ∀ (s : Shared) (H : Hp) (C : Addr) (cc : List (Str × Addr)) (fp : List Addr), SG (X.blk s H scope (compEnvC scope cc C X.env) fp) t tg)
    (ht : ∀ (s : Shared) (H : Hp) (C : Addr) (cc : List (Str × Addr)) (fp : List Addr), STs cl (X.blk s H scope (compEnvC scope cc C X.env) fp) WF ifs tt)
    (hi1 : ∀ (s : Shared) (H : Hp) (C : Addr) (cc : List (Str × Addr)) (fp : List Addr), SI cl (X.blk s H scope (compEnvC scope cc C X.env) fp) WF t1 a1 ei1)
    (hg1 : ∀ (s : Shared) (H : Hp) (C : Addr) (cc : List (Str × Addr)) (fp : List Addr), SG (X.blk s H scope (compEnvC scope cc C X.env) fp) t1 tg1)
    (ht1 : ∀ (s : Shared) (H : Hp) (C : Addr) (cc : List (Str × Addr)) (fp : List Addr), STs cl (X.blk s H scope (compEnvC scope cc C X.env) fp) WF ifs1 tt1)
    (he : ∀ (s : Shared) (H : Hp) (C : Addr) (cc : List (Str × Addr)) (fp : List Addr), SE cl (X.blk s H scope (compEnvC scope cc C X.env) fp) WF elt ee) (hsl : ∀ i ∈ tg.slots, i ∈ own.map (·.2)) (hsl1 : ∀ i ∈ tg1.slots, i ∈ vs1) (hs : ∀ x, foldedSetIterable a X.env x = pure x := by intro _; rfl) (hs1 : ∀ env x, foldedSetIterable a1 env x = pure x := by intro _ _; rfl) :
    SE cl X W (.ListComp elt [⟨t, a, ifs, 0⟩, ⟨t1, a1, ifs1, 0⟩] scope pos) (eLc2 (own.map (·.2)) vs1 tg ei tt tg1 ei1 tt1 ee) := (pe_lc2 hc hN hi ok hv hg ht hi1 hg1 ht1 he hs hs1).impM fun σ H Q h => lc2_post hsl hsl1 h
end
end Mi
end

section
set_option maxRecDepth 100000
set_option autoImplicit false
namespace L2
open PySem PySem.Spec PyProof.Rows
section
variable {prog : Program} {w : World} {A : Around} {E : Value → Shared → Prop} {s : Shared}
theorem walksS_tup (hh : A.handled = none) (I ax : Addr) (hne : ax ≠ I) (items : Array Value) (k : Nat) :
    WalksS prog w A I [I, ax] [I] (fun a b => a = b) (items.size - k) (fun i v => items[i + k]? = some v) (fun i s => s.heap.IsTupleIter I ax (i + k) ∧ s.heap.IsTuple ax items ∧ k ≤ items.size) where
  sub := fun b hb => by simp at hb; simp [hb]
  grefl := fun _ => rfl
  gtrans := fun _ _ _ a b => a.trans b
  frame := fun _ _ _ _ st _ hk => ⟨st.1.at fun o e => hk I (by simp) o e, st.2.1.at fun o e => hk ax (by simp) o e, st.2.2⟩
  item := fun i s Q E hi st hQ => by
    have hlt : i + k < items.size := by omega
    refine wpAny_pyNext_tuple_item st.1 st.2.1 (x := items[i + k]) (by simp [hlt]) fun h' hit' hs' => ?_
    refine hQ _ { s with heap := h' } (by simp [hlt]) ⟨?_, st.2.1.extBut hs'.extBut hne, st.2.2⟩ ⟨fun b o hb e => hs'.extBut b o (fun h => hb (by simp [h])) e, rfl, rfl, rfl, Nat.le_refl _⟩
    rw [show i + 1 + k = i + k + 1 by omega]; exact hit'
  done := fun s Q E st hQ => by
    refine wpAny_pyNext_tuple_end hh st.1 st.2.1 (Array.getElem?_eq_none (by have := st.2.2; omega)) fun h' he' => hQ { s with heap := h' } ⟨fun b o hb e => he' b o (fun h => hb (by simp [h])) e, rfl, rfl, rfl, Nat.le_refl _⟩
  self := fun _ _ _ _ st hQ => wpAny_pyIter_tupleiter st.1 hQ
/-- x, *rest = t -/
theorem unpackItems_star {t : Addr} {items : Array Value} {x : Value} {Q : List Value → Shared → Prop} (hh : A.handled = none) (ht : s.heap.IsTuple t items) (hx : items[0]? = some x) (hz : items.size ≤ sizeLine)
    (hQ : ∀ s' : Shared, (∀ b o, s.heap.get? b = some o → s'.heap.get? b = some o) → s'.gens = s.gens → s'.os = s.os → Q [x, .ref s'.heap.objs.size] { s' with heap := s'.heap.push { cls := .type "list", data := .seq (items.toList.drop 1).toArray } }) :
    wpAny (model prog w) A (unpackItems (.ref t) 2 (some 1)) Q E s := by
  have hlt : t ≠ s.heap.objs.size := by obtain ⟨o, ho, _⟩ := ht; exact Nat.ne_of_lt (Heap.lt_size ho)
  have hpos : 1 ≤ items.size := by
    rcases Nat.eq_zero_or_pos items.size with e | e
    · rw [Array.getElem?_eq_none (by omega)] at hx; cases hx
    · exact e
  unfold unpackItems
  refine wpAny_bind ?_
  unfold notIterableAtAll
  refine wpAny_bind (wpAny_specialOf ht.typeIs slot_tuple_iter.lookup ?_)
  refine wpAny_pure ?_
  simp only [Bool.false_eq_true, if_false]
  refine wpAny_bind (wpAny_holding (wpAny_pyIter_tuple ht ?_))
  have ht1 : (s.heap.push { cls := .type "tuple_iterator", data := .fields #[.ref t, rawInt 0] }).IsTuple t items := by
    obtain ⟨o, ho, r⟩ := ht
    exact ⟨o, Heap.get?_push_of_some _ ho, r⟩
  refine wpAny_bind (wpAny_holding (wpAny_draw_tuple hlt 1 0 _ _ ⟨_, Heap.get?_push_size _ rfl, rfl, rfl⟩ ht1 (by omega) fun h₁ hit₁ hs₁ => ?_))
  have hl : items.toList = x :: items.toList.drop 1 := by
    have h0 : items.toList[0]? = some x := by simpa using hx
    cases e : items.toList with
    | nil => rw [e] at h0; simp at h0
    | cons a r => rw [e] at h0; simp at h0; rw [h0]; rfl
  have hf : List.take 1 (List.drop 0 items.toList) = [x] := by rw [List.drop_zero, hl]; rfl
  rw [hf]
  rw [if_neg (by simp)]
  have k1 : ∀ b o, s.heap.get? b = some o → h₁.get? b = some o := fun b o e => hs₁.extBut b o (Nat.ne_of_lt (Heap.lt_size e)) (Heap.get?_push_of_some _ e)
  have ht₁ : h₁.IsTuple t items := by
    obtain ⟨o, ho, r⟩ := ht
    exact ⟨o, k1 _ _ ho, r⟩
  have hsz : s.heap.objs.size < h₁.objs.size := by obtain ⟨o, e, _⟩ := id hit₁; exact Heap.lt_size e
  have hht : t < h₁.objs.size := by obtain ⟨o, ho, _⟩ := ht₁; exact Heap.lt_size ho
  refine wpAny_bind (wpAny_holding (wpAny_collect_iter (T := "tuple_iterator") (.inr (.inr (.inr rfl))) (walksS_tup (A := A.in1) hh s.heap.objs.size t hlt items 1) (fun i s st => st.1.typeIs) ⟨by simpa using hit₁, ht₁, hpos⟩ (fun b hb => ?_) (by simp) (fun s' acc mv ia => ?_) (by omega)))
  · rcases List.mem_cons.mp hb with e | hb
    · rw [e]; exact hsz
    · simp at hb; rw [hb]; exact hht
  · have ea : acc.toList = items.toList.drop 1 := by
      obtain ⟨h1, h2⟩ := ia
      apply List.ext_getElem?
      intro j
      by_cases hj : j < acc.size
      · have e1 : acc[j]? = some acc[j] := by simp [hj]
        have e2 := h2 j _ e1
        rw [Array.getElem?_toList, e1, List.getElem?_drop, Array.getElem?_toList, show 1 + j = j + 1 by omega]
        exact e2.symm
      · rw [Array.getElem?_toList, Array.getElem?_eq_none (by omega), List.getElem?_eq_none]
        rw [List.length_drop, Array.length_toList]; omega
    rw [ea]
    simp only [show 2 - 1 - 1 = 0 from rfl, Nat.not_lt_zero, if_false, Nat.sub_zero, List.take_length, List.drop_length, List.append_nil]
    refine wpAny_bind (wpAny_newList ?_ ?_)
    · refine wpAny_pure ?_
      refine hQ s' (fun b o e => mv.heap b o (fun z => ?_) (k1 b o e)) mv.gens.symm mv.os
      simp at z
      exact absurd (Heap.lt_size e) (by rw [z]; exact Nat.lt_irrefl _)
    · rw [List.length_drop, Array.length_toList]; omega
end
/-- the target x, *rest -/
def gStar (K : PySem.W.Frag) (i j : Nat) : TG := fun v σ H Q => ∃ a x xs, v = .ref a ∧ SqT K H a (x :: xs) ∧ ∀ p, H p = none → Q ((σ.set i (some x)).set j (some (.ref p))) (upd H p (.lst xs))
theorem pg_star {X : Cx} {x y : Str} {i j k : Nat} {p1 p2 p3 pos : Pos} (hc : X.calm = true) (hN : X.N.Nodup) (hi : X.N[i]? = some x) (hj : X.N[j]? = some y) (hx : Loc X.env.scope x) (hy : Loc X.env.scope y) (hf : ∀ z, X.fn z = true) :
    PG X (.Tuple [.Name x p1, .Starred (.Name y p2) p3] k pos) (gStar X.K i j) := by
  refine ⟨fun pins s σ H v u Q I r hw => ?_⟩
  obtain ⟨a, z, zs, e1, hq, hw⟩ := hw
  subst e1
  cases r
  obtain ⟨its, rv, ht, hz⟩ := I.tuple hq
  cases rv with
  | cons rz rzs =>
    rename_i uz uzs
    rw [assign_Tuple]
    refine wpAny_bind (wpAny_standAt ?_)
    unfold unpack
    show wpAny _ _ (holding [.ref a] (unpackItems (.ref a) 2 (some 1)) >>= fun l => assignInOrder [assign (.Name x p1) X.env, assign (.Name y p2) X.env] l) _ _ _
    refine wpAny_bind (wpAny_holding (unpackItems_star (I.ok.hd hc) (show s.heap.IsTuple a (uz :: uzs).toArray from ht) (x := uz) (by simp) (by have h1 := rzs.length; simp at hz ⊢; omega) fun s' k g o => ?_))
    have I1 : Inv X pins σ H s' := I.call' (ch := []) o (Un.kept k) (I.hok.kept k) (by rw [g]; exact I.bare) fun _ z => nomatch z
    have I2 : Inv X pins σ (upd H s'.heap.objs.size (.lst zs)) { s' with heap := s'.heap.push { cls := .type "list", data := .seq ((uz :: uzs).toArray.toList.drop 1).toArray } } :=
      I1.laid (t' := s'.toks) (o := .lst zs) (fun b ob q => Heap.get?_push_of_some _ q) (Nat.le_refl _) ⟨by have := hz; simp at this; omega, uzs, _, rzs, by simpa using Heap.get?_push_size s'.heap rfl⟩
    refine assignInOrder_cons (wpAny_assign_Name (store_ok I2 hN hi hx rz (fun s2 I3 => ?_) (.inl (hf x))))
    refine assignInOrder_cons (wpAny_assign_Name (store_ok (v := .ref s'.heap.objs.size) I3 hN hj hy rfl (fun s3 I4 => ?_) (.inl (hf y))))
    exact assignInOrder_nil ⟨_, _, I4, hw _ (I1.hok.fresh (Nat.le_refl _))⟩
end L2

namespace Mi
open PySem PySem.Spec L2
section
variable {cl : Nat → Addr} {X : Cx} {W : WX} {pos : Pos} {a b c o : Expr} {ea eb : EE}
/-- x, *rest = e -/
def sStar (i j : Nat) (e : EE) : ES := fun env st => (e env st).bindS env fun v s => match v with
  | .d (.tuple (x :: xs)) => .ok (.nx ((env.set i (some (.d x))).set j (some (.d (.list xs))))) s
  | _ => .bad
theorem ss_star {x y : Str} {k : Nat} {p1 p2 p3 ptup : Pos} (i j : Nat) (hc : X.calm = true) (hN : X.N.Nodup) (hi : X.N[i]? = some x) (hj : X.N[j]? = some y) (hx : Loc X.env.scope x) (hy : Loc X.env.scope y) (hf : ∀ z, X.fn z = true) (he : SE cl X W a ea)
    (hs : swapsWithSole [.Tuple [.Name x p1, .Starred (.Name y p2) p3] k ptup] a pos.line X.env = pure false := by rfl) (hw : swappedStores [.Tuple [.Name x p1, .Starred (.Name y p2) p3] k ptup] a X.env = pure none := by rfl) :
    SS cl X W (.Assign [.Tuple [.Name x p1, .Starred (.Name y p2) p3] k ptup] a pos) (sStar i j ea) := (ps_asg he (pg_star hc hN hi hj hx hy hf) hs hw rfl).impM fun D σ H h => by
  obtain ⟨G, m, env, st, rl, en, p⟩ := h
  refine ⟨G, m, env, st, rl, en, Post.bindS en p fun v s1 x H1 G1 m1 _ e1 rl1 r1 p1 => ?_⟩
  split at p1
  · rename_i z zs _
    cases r1 with
    | d r =>
      cases r with
      | tup q ra =>
        cases ra with
        | cons rz rzs =>
          refine ⟨_, _, _, rfl, SqT.sub rl1.sub q, fun p hp => ?_⟩
          obtain ⟨r2, ex⟩ := rl1.laid hp (.lst _)
          exact p1 _ _ _ _ ex r2 ((((en.ext e1).ext ex).set (.d (rz.sub ex.sub)) i).set (.d (.lst upd_same (rzs.sub ex.sub))) j)
  · exact p1.elim
/-! ### several names at once, of a display -/
/-! ### append, extend, pop -/
def eAppend (o a : EE) : EE := fun env st => (o env st).bind fun v s1 => match v with
  | .r i => (match s1[i]? with
    | some (.lst _) => (a env s1).bind fun u s2 => (match toD u s2 with
      | some (x, s3) => (match s3[i]? with
        | some (.lst xs) => if xs.length < 1000000 then .ok (.d .none) (s3.set i (.lst (xs ++ [x]))) else .bad
        | _ => .bad)
      | none => .bad)
    | _ => .bad)
  | _ => .bad
theorem se_append {apos : Pos} (ho : SE cl X W o ea) (ha : SE cl X W a eb) (hbase : attributeBase o "append" X.env (eval o X.env) = eval o X.env := by rfl)
    (hfew : ((backTo pos (starEach [a] X.env)).all (fun x => !x.1) && (backToKw pos (keywordEach [] X.env)).all (fun x => x.1.isSome) && decide ([a].length + ([] : List Keyword).length + (if ([] : List Keyword).isEmpty then 0 else 1) < 30)) = true := by rfl)
    (hline : (apos.endLine == pos.line) = true := by rfl) (hs : starEach [a] X.env = (false, eval a X.env) :: starEach [] X.env := by rfl) (hplain : (backTo pos (starEach [] X.env)).any (·.1) = false := by rfl) :
    SE cl X W (.Call (.Attribute o "append" apos) [a] [] pos) (eAppend ea eb) :=
  (pe_bm PySem.F.plainAttrs_list PySem.F.slot_list_append PySem.F.type_list_append mt_append ho (pa_cons ha pa_nil hs) hbase hfew hline hs hplain).impM fun σ H Q h => by
  obtain ⟨G, m, env, st, rl, en, p⟩ := h
  refine ⟨G, m, env, st, rl, en, Post.bindE p fun v s1 x H1 G1 m1 _ e1 rl1 r1 p1 => ?_⟩
  split at p1
  · rename_i i
    cases r1 with
    | r q =>
      split at p1
      · rename_i ys e
        obtain ⟨vs, hv, ra⟩ := rl1.obj _ _ _ e q
        refine ⟨.inl ⟨rfl, vs, SqL.of hv⟩, G1, m1, env, s1, rl1, en.ext e1, Post.bindE p1 fun u s2 y H2 G2 m2 _ e2 rl2 r2 p2 => ?_⟩
        split at p2
        · rename_i d s3 ed
          obtain ⟨G3, rl3, ex3, rd⟩ := toD_rep rl2 r2 ed
          split at p2
          · rename_i xs ex
            split at p2
            · rename_i hl
              have q2 := e2.pre _ _ q
              obtain ⟨vs2, hv2, ra2⟩ := rl3.obj _ _ _ ex q2
              refine ⟨_, vs2, y, rfl, rfl, hv2, by rw [ra2.length, sizeLine_eq]; omega, ?_⟩
              obtain ⟨rl4, ex4⟩ := rl3.write q2 ex rfl (.lst (vs2 ++ [y])) (.lst (xs ++ [d])) ⟨_, upd_same, ra2.append (.cons rd .nil)⟩
              exact p2 _ _ _ _ (ex3.trans ex4) rl4 (.d .non)
            · exact p2.elim
          · exact p2.elim
        · exact p2.elim
      · exact p1.elim
  · exact p1.elim
end
end Mi
end

section
set_option maxRecDepth 100000
set_option autoImplicit false
namespace Mi
open PySem PySem.Spec L2
/-! ### dicts: d[k], d[k] = v, {}, d.get(k, x), the walk, the comprehension -/
def kPut (ps : List (Int × D)) (i : Int) (x : D) : List (Int × D) := if (ps.any fun p => decide (p.1 = i)) = true then ps.map (fun p => if p.1 = i then (p.1, x) else p) else ps ++ [(i, x)]
def nPut (ps : List (D × D)) (k : NestedKey) (kd x : D) : List (D × D) := if (nFind ps k).isSome = true then ps.map (fun p => if nk p.1 = some k then (p.1, x) else p) else ps ++ [(kd, x)]
section
variable {C : RC} {G : Hp}
theorem RepN.append : ∀ {ps qs : List (D × D)} {xs ys : List (NestedKey × Addr × Value)}, RepN C G ps xs → RepN C G qs ys → RepN C G (ps ++ qs) (xs ++ ys)
  | _, _, _, _, .nil, k => k
  | _, _, _, _, .cons h1 h2 h3 h4 h5 h6, k => .cons h1 h2 h3 h4 h5 (RepN.append h6 k)
theorem RepN.length : ∀ {ps : List (D × D)} {xs : List (NestedKey × Addr × Value)}, RepN C G ps xs → xs.length = ps.length
  | _, _, .nil => rfl
  | _, _, .cons h1 h2 h3 h4 h5 h6 => by simp [RepN.length h6]
end
section
variable {cl : Nat → Addr} {X : Cx} {W : WX} {pos pos' tpos : Pos} {o i e value : Expr} {eo ei ev : EE}
/-- {} -/
def eDNewK : EE := fun _ st => .ok (.r st.length) (st ++ [.dK []])
def eDNewN : EE := fun _ st => .ok (.r st.length) (st ++ [.dN []])
/-- d[k] = v -/
def sDPut (eo ei ev : EE) : ES := fun env st => (ev env st).bindS env fun v s1 => (eo env s1).bindS env fun x s2 => (ei env s2).bindS env fun y s3 => match x, y, toD v s3 with
  | .r j, .d kd, some (d, s4) => (match s4[j]? with
    | some (.dK ps) => (match kd with
      | .int i => if ps.length < 1000000 then .ok (.nx env) (s4.set j (.dK (kPut ps i d))) else .bad
      | _ => .bad)
    | some (.dN ps) => (match kd with
      | .tuple xs => (match nk (.tuple xs) with
        | some k => if k.depth ≤ 8 ∧ ps.length < 1000000 then .ok (.nx env) (s4.set j (.dN (nPut ps k (.tuple xs) d))) else .bad
        | none => .bad)
      | _ => .bad)
    | _ => .bad)
  | _, _, _ => .bad
end
end Mi
end

section
set_option maxRecDepth 100000
set_option autoImplicit false
namespace Mi
open PySem PySem.Spec L2
/-! ### a dict is frozen -/
section
variable {C : RC} {G : Hp} {m : List Addr} {H : Hp} {st : Sto}
end
section
variable {cl : Nat → Addr} {X : Cx} {W : WX} {pos apos cpos : Pos} {e o i f t a c kx vx : Expr} {ee eo ei ef : EE} {te : TE}
def eFrz (ee : EE) : EE := fun env st => (ee env st).bind fun v s => match v with
  | .r j => (match s[j]? with
    | some (.dK ps) => .ok (.d (.dict (ps.map fun p => (.int p.1, p.2)))) (s.set j .gone)
    | some (.dN ps) => .ok (.d (.dict ((.none, .none) :: ps))) (s.set j .gone)
    | _ => .bad)
  | _ => .bad
/-! ### the keys of a frozen dict -/
def iKeys (e : EE) : EI := fun env st => (e env st).bind fun v s => match v with
  | .d (.dict kvs) => (match dcD kvs with
    | some (.k ps) => .ok (ps.map fun p => .int p.1) s
    | _ => .bad)
  | _ => .bad
/-! ### list(d) -/
/-! ### d.get(k, x) -/
end
end Mi
end

section
set_option maxRecDepth 100000
set_option autoImplicit false
namespace Mi
open PySem PySem.Spec L2
/-! ### {k: v for .. in .. if ..}, k an int -/
def compD (tg : Tg) (tt : ET) (ek ee : EE) (env : Ev) : List D → List (Int × D) → Sto → R (List (Int × D))
  | [], acc, st => .ok acc st
  | x :: xs, acc, st => match tg.put x env with
    | none => .bad
    | some e1 => (noX (tt e1 st)).bind fun b s1 => match b with
      | false => compD tg tt ek ee env xs acc s1
      | true => (noX (ek e1 s1)).bind fun k s2 => (noX (ee e1 s2)).bind fun v s3 => match k, toD v s3 with
        | .d (.int i), some (d, s4) => compD tg tt ek ee env xs (kPut acc i d) s4
        | _, _ => .bad
section
variable {cl : Nat → Addr} {X : Cx} {W : WX} {pos : Pos} {t a c kx vx : Expr} {ifs : List Expr} {ei : EI} {tg : Tg} {tt : ET} {ek ee : EE}
/-- a dict that may be changed; one that is data -/
def eDcR (vs : List Nat) (tg : Tg) (ei : EI) (tt : ET) (ek ee : EE) : EE := fun env st => (ei env st).bind fun xs s => if small xs.length = true then (compD tg tt ek ee (wipeE env vs) xs [] s).bind fun ds s2 => .ok (.r s2.length) (s2 ++ [.dK ds]) else .bad
def eDcF (vs : List Nat) (tg : Tg) (ei : EI) (tt : ET) (ek ee : EE) : EE := fun env st => (ei env st).bind fun xs s => if small xs.length = true then (compD tg tt ek ee (wipeE env vs) xs [] s).bind fun ds s2 => .ok (.d (.dict (ds.map fun p => (.int p.1, p.2)))) s2 else .bad
variable {scope : Scope} {own : List (Str × Nat)}
end
end Mi
end

section
set_option maxRecDepth 100000
set_option autoImplicit false
namespace Mi
open PySem PySem.Spec L2 PyProof.Rows
/-! ### set(xs) of a list of ints, in the order of its table -/
section
variable {P : Program} {w : World} {A : Around} {E : Value → Shared → Prop} {s : Shared}
end
end Mi
end

section
set_option maxRecDepth 100000
set_option autoImplicit false
namespace Mi
open PySem PySem.Spec L2 PyProof.Rows
/-! ### {e for t in a if .. for t1 in a1 if ..}, e an int -/
section
variable {prog : Program} {w : World} {A : Around} {R : Result → Shared → Prop} {s : Shared} {elt t0 i0 t1 i1 : Expr} {fs0 fs1 : List Expr} {scope : Scope} {pos : Pos} {it acc : Value} {env : Env}
/-- an error within is told with the frame -/
abbrev nb (prog : Program) (w : World) (A : Around) (env : Env) (R : Result → Shared → Prop) : Value → Shared → Prop := notedBy (model prog w) A env fun e t => R (.error e) t
end
section
variable {X : Cx}
end
end Mi
end

section
set_option maxRecDepth 100000
set_option maxHeartbeats 2000000
set_option autoImplicit false
/-! sorted(a set of ints), any number of members -/
namespace Mi
open PySem PySem.Spec PyProof.Rows L2
section
variable {P : Program} {w : World} {A : Around} {E : Value → Shared → Prop} {s : Shared} {a : Addr}
end
end Mi
end

section
set_option maxRecDepth 100000
set_option autoImplicit false
namespace Mi
open PySem PySem.Spec L2
/-! ### rising lists -/
def insS (x : Int) : List Int → List Int
  | [] => [x]
  | y :: ys => if x < y then x :: y :: ys else if x = y then y :: ys else y :: insS x ys
def sortS (ns : List Int) : List Int := ns.foldl (fun s x => insS x s) []
/-! ### a set being made -/
def SetAt (X : Cx) (H : Hp) (D' : Addr) (acc : List D) : Prop := ∃ S n, H D' = some (SetO X.w D' S n) ∧ n ≤ acc.length ∧ (∀ k : Int, S k = true ↔ PyData.int k ∈ acc) ∧ ∀ ns, intsOf acc = some ns → n = (sortS ns).length
section
variable {X : Cx} {H H' G G' : Hp} {m m' : List Addr} {D' : Addr} {acc : List D}
theorem SetAt.frm (h : SetAt X H D' acc) (e : Ext G m H G' m' H') (hm : D' ∉ m) : SetAt X H' D' acc := let ⟨S, n, h1, h2⟩ := h; ⟨S, n, e.frm _ _ h1 hm, h2⟩
theorem SetAt.ne (h : SetAt X H D' acc) : H D' ≠ none := let ⟨S, n, h1, _⟩ := h; by rw [h1]; simp
theorem SetAt.new : SetAt X (upd H D' (SetO X.w D' (fun _ => false) 0)) D' [] := ⟨_, 0, upd_same, Nat.le_refl _, fun k => by simp, fun ns e => by cases e; rfl⟩
end
def srtD (ds : List D) (s : Sto) : R Val := match intsOf ds with
  | some ns => if ds.length ≤ 4000 ∧ (sortS ns).length ≤ 4000 then .ok (.d (.list ((sortS ns).map .int))) s else .bad
  | none => .bad
section
variable {cl : Nat → Addr} {X : Cx} {W : WX} {pos p p2 q : Pos} {t a t1 a1 c elt : Expr} {ifs ifs1 : List Expr} {ei ei1 : EI} {tg tg1 : Tg} {tt tt1 : ET} {ee ea : EE}
def eSortSc2 (vs vs1 : List Nat) (tg : Tg) (ei : EI) (tt : ET) (tg1 : Tg) (ei1 : EI) (tt1 : ET) (ee : EE) : EE := fun env st => (ei env st).bind fun xs s => (compL2 tg tt ei1 vs1 tg1 tt1 ee (wipeE env vs) xs s).bind srtD
variable {scope : Scope} {own : List (Str × Nat)} {vs1 : List Nat}
/-! ### sorted(set(xs)), sorted(xs) -/
def eSortSet (ea : EE) : EE := fun env st => (ea env st).bind fun v s => match sqOf v s with
  | some xs => srtD xs s
  | none => .bad
end
end Mi
end

section
set_option maxRecDepth 100000
set_option autoImplicit false
namespace Mi
open PySem PySem.Spec L2
section
variable {cl : Nat → Addr} {X : Cx} {W : WX} {pos p apos q : Pos} {t a b o : Expr} {ea eb : EE}
/-! ### xs.pop(), xs.extend(ys) -/
def ePop (eo : EE) : EE := fun env st => (eo env st).bind fun v s => match v with
  | .r i => (match s[i]? with
    | some (.lst xs) => (match xs[xs.length - 1]? with
      | some y => .ok (.d y) (s.set i (.lst xs.dropLast))
      | none => .bad)
    | _ => .bad)
  | _ => .bad
theorem RepAll.dropLast {C : RC} {G : Hp} {vs : List V} {ds : List D} (h : RepAll C G vs ds) : RepAll C G vs.dropLast ds.dropLast := by
  rw [List.dropLast_eq_take, List.dropLast_eq_take, h.length]
  exact h.take _
def eExtend (eo ea : EE) : EE := fun env st => (eo env st).bind fun v s1 => match v with
  | .r i => (match s1[i]? with
    | some (.lst _) => (ea env s1).bind fun u s2 => (match lsOf u s2 with
      | some ys => (match s2[i]? with
        | some (.lst xs) => if xs.length + ys.length ≤ 1000000 then .ok (.d .none) (s2.set i (.lst (xs ++ ys))) else .bad
        | _ => .bad)
      | none => .bad)
    | _ => .bad)
  | _ => .bad
theorem se_extend (ho : SE cl X W o ea) (ha : SE cl X W a eb) (hbase : attributeBase o "extend" X.env (eval o X.env) = eval o X.env := by rfl)
    (hfew : ((backTo pos (starEach [a] X.env)).all (fun x => !x.1) && (backToKw pos (keywordEach [] X.env)).all (fun x => x.1.isSome) && decide ([a].length + ([] : List Keyword).length + (if ([] : List Keyword).isEmpty then 0 else 1) < 30)) = true := by rfl)
    (hline : (apos.endLine == pos.line) = true := by rfl) (hs : starEach [a] X.env = (false, eval a X.env) :: starEach [] X.env := by rfl) (hplain : (backTo pos (starEach [] X.env)).any (·.1) = false := by rfl) :
    SE cl X W (.Call (.Attribute o "extend" apos) [a] [] pos) (eExtend ea eb) :=
  (pe_bm PySem.F.plainAttrs_list PySem.F.slot_list_extend PySem.F.type_list_extend mt_extend ho (pa_cons ha pa_nil hs) hbase hfew hline hs hplain).impM fun σ H Q h => by
  obtain ⟨G, m, env, st, rl, en, p⟩ := h
  refine ⟨G, m, env, st, rl, en, Post.bindE p fun v s1 x H1 G1 m1 _ e1 rl1 r1 p1 => ?_⟩
  split at p1
  · rename_i i
    cases r1 with
    | r q =>
      split at p1
      · rename_i ys e
        obtain ⟨vs, hv, ra⟩ := rl1.obj _ _ _ e q
        refine ⟨.inl ⟨rfl, vs, SqL.of hv⟩, G1, m1, env, s1, rl1, en.ext e1, Post.bindE p1 fun u s2 y H2 G2 m2 _ e2 rl2 r2 p2 => ?_⟩
        split at p2
        · rename_i zs ez
          split at p2
          · rename_i xs ex
            split at p2
            · rename_i hl
              obtain ⟨b', us, rfl, hb, rb⟩ := ls_of rl2 r2 ez
              have q2 := e2.pre _ _ q
              obtain ⟨vs2, hv2, ra2⟩ := rl2.obj _ _ _ ex q2
              refine ⟨_, b', vs2, us, rfl, rfl, hv2, hb, by rw [ra2.length, rb.length, sizeLine_eq]; omega, ?_⟩
              obtain ⟨rl4, ex4⟩ := rl2.write q2 ex rfl (.lst (vs2 ++ us)) (.lst (xs ++ zs)) ⟨_, upd_same, ra2.append rb⟩
              exact p2 _ _ _ _ ex4 rl4 (.d .non)
            · exact p2.elim
          · exact p2.elim
        · exact p2.elim
      · exact p1.elim
  · exact p1.elim
/-! ### range(i, j), list(range(n)) -/
def rngD (i : Int) (n : Nat) : List D := (List.range n).map fun k => PyData.int (i + (k : Nat))
def iRange2 (a : EA) : EI := fun env st => (a env st).bind fun vs s => match vs with
  | [.d (.int i), .d (.int j)] => if -(2 ^ 60) ≤ i ∧ i < 2 ^ 60 ∧ -(2 ^ 60) ≤ j ∧ j < 2 ^ 60 then .ok (rngD i (j - i).toNat) s else .bad
  | _ => .bad
def eListRg (ea : EE) : EE := fun env st => (ea env st).bind fun v s => match v with
  | .d (.int n) => if -(2 ^ 60) ≤ n ∧ n ≤ 1000000 then .ok (.d (.list (rngD 0 n.toNat))) s else .bad
  | _ => .bad
end
end Mi
end

section
set_option maxRecDepth 100000
set_option autoImplicit false
namespace Mi
open PySem PySem.Spec L2
/-! ### the head's facts: defs by names, and one more check -/
abbrev AlM : Type := Bool × List He.FnW
def obsM (fn : List He.DefD) (chk : PySem.W.Frag → Bool) (K : PySem.W.Frag) : AlM := (chk K && fn.all fun d => d.ok K, fn.map fun d => He.fnW K d.at_)
def valM (fn : List He.DefD) : AlM := (true, fn.map He.DefD.val)
def SaysM (fn : List He.DefD) (chk : PySem.W.Frag → Bool) (K : PySem.W.Frag) : Prop := obsM fn chk K = valM fn
def obsMG (n : Nat) (fn : List He.DefD) (chk : PySem.W.Frag → Bool) (g : Addr → Option Obj) : AlM := obsM fn chk (He.frG g (He.asD g n))
def hookM (n : Nat) (fn : List He.DefD) (chk : PySem.W.Frag → Bool) : PySem.W.Hook where
  α := AlM
  obs := fun s => obsMG n fn chk s.heap.get?
  val := fun _ => valM fn
  says := fun _ h => ∃ K : PySem.W.Frag, K.In h ∧ SaysM fn chk K
  of := fun _ _ e => ⟨_, He.frG_in, e⟩
  keeps := fun _ _ _ ⟨K, hK, c⟩ k => ⟨K, PySem.W.Frag.In.keeps hK k, c⟩
theorem obsMG_eq {n : Nat} {fn : List He.DefD} {chk : PySem.W.Frag → Bool} {g : Addr → Option Obj} {s : Shared} (h : ∀ a, g a = s.heap.get? a) : obsMG n fn chk g = (hookM n fn chk).obs s := by
  have e : g = s.heap.get? := funext h
  rw [e] <;> rfl
section
variable {fn : List He.DefD} {chk : PySem.W.Frag → Bool} {K : PySem.W.Frag}
theorem SaysM.check (c : SaysM fn chk K) : chk K = true := by
  have c1 : (chk K && fn.all fun d => d.ok K) = true := congrArg (fun z : AlM => z.1) c
  exact (Bool.and_eq_true_iff.mp c1).1
theorem SaysM.def_ (c : SaysM fn chk K) (i : Nat) {d : He.DefD} (h : fn[i]? = some d := by rfl) : ∃ fd, FunD K d.name d.qual d.params d.body d.scope (d.dvs K) (d.kws K) (He.fAd K d.at_) fd := by
  have c1 : (chk K && fn.all fun d => d.ok K) = true := congrArg (fun z : AlM => z.1) c
  have c2 := (Bool.and_eq_true_iff.mp c1).2
  have e : fn.map (fun d => He.fnW K d.at_) = fn.map He.DefD.val := congrArg (fun z : AlM => z.2) c
  have e2 : (fn.map fun d => He.fnW K d.at_)[i]? = (fn.map He.DefD.val)[i]? := by rw [e]
  rw [List.getElem?_map, List.getElem?_map, h] at e2
  exact He.DefD.funD (Option.some.inj e2) (List.all_eq_true.mp c2 d (List.mem_of_getElem? h))
end
/-- the end of a law, with exceptions in the world's air -/
theorem walk_ofM {l : PySem.W.OpenLaw} {n k : Nat} {q : Program} {loose : List Str} {XP : (Str → Option Value) → Heap → Prop} {YP : World → Heap → Prop} {d : DefRec} {CX : World → CXT} {x : Str}
    (hn : l.most = some n) (hn2 : n ≤ sizeLine) (hdf : d.params.defaults = []) (hr : Room k callerA)
    (F : ∀ (w : World) (mg : Str → Option Value) (fa : Addr) (h : Heap), YP w h → h.Ns mainGlobals mg → mg d.name = some (.ref fa) →
      ∃ (K : PySem.W.Frag) (fd : FuncData) (sp : Sp), K.In h ∧ (∀ (s : Shared) (u : Value), BindsTo s fd ⟨[u], []⟩ [(x, u)]) ∧
        (∀ (H : Hp) (a : Addr) (ns : List Int), ns.length ≤ n → Only H → SqL K H a (ns.map V.int) → sp [.ref a] H (fun v _ => v = .bl true) fun _ _ _ => False) ∧
        ∀ base : Heap, K.In base → base.Ns mainGlobals mg → FnOk l.prog w K mg base (CX w) k fa fd [x] sp)
    (hCX : ∀ (w : World) (H : Hp) (s : Shared) (e : Value) (s' : Shared), CX w [] H s (fun _ _ _ => False) e s' → False) :
    PySem.W.WalkO q loose XP YP l.row.toRowW d [] (fun f vs => PySem.call f vs) :=
  Att.attach_call hn hdf fun w s₀ s₁ mg mb fa o pm cd doc a vs ns G Y ho hd hcd hmg hobj hints hlen hg => by
    obtain ⟨K, fd, sp, KX, hb, hsp, hF⟩ := F w mg fa _ Y G.T.g hmg
    exact law_call KX G.T.g G.T.b G.T.builtins G.T.nolimit hg hobj hints (Nat.le_trans hlen hn2) hr hF hb (fun H hO hS => hsp H a ns hlen hO hS) fun H e s' => hCX w H s₁ e s'
end Mi
end

section
set_option maxRecDepth 100000
set_option autoImplicit false
/-! enumerate over a tuple -/
namespace Mi
open PySem PySem.Spec PyProof.Rows L2
def iEnumA (a : EA) : EI := fun env st => (a env st).bind fun vs s => match vs with
  | [.d (.list xs)] => .ok (enumD 0 xs) s
  | [.d (.tuple xs)] => .ok (enumD 0 xs) s
  | _ => .bad
section
variable {cl : Nat → Addr} {X : Cx} {W : WX} {pos p tpos : Pos} {t a b : Expr} {ea eb : EE}
end
/-! step equations -/
def R.enumI (r : R (List Val)) : R (List D) := r.bind fun vs s => match vs with
  | [.d (.list xs)] => .ok (enumD 0 xs) s
  | [.d (.tuple xs)] => .ok (enumD 0 xs) s
  | _ => .bad
@[simp] theorem iEnumA_eq (a : EA) (env : Ev) (st : Sto) : iEnumA a env st = (a env st).enumI := rfl
end Mi
end

section
set_option maxRecDepth 100000
set_option autoImplicit false
/-! xs[i] = v, x += n, xs.index(v) -/
namespace Mi
open PySem PySem.Spec L2
section
variable {cl : Nat → Addr} {X : Cx} {W : WX} {pos pos' p apos q : Pos} {t a b o i value : Expr} {ea eb eo ei ev : EE}
def sLPut (eo ei ev : EE) : ES := fun env st => (ev env st).bindS env fun v s1 => (eo env s1).bindS env fun x s2 => (ei env s2).bindS env fun y s3 => match x, y, toD v s3 with
  | .r j, .d (.int k), some (d, s4) => (match s4[j]? with
    | some (.lst xs) => (match ixN xs.length k with
      | some n => .ok (.nx env) (s4.set j (.lst (xs.set n d)))
      | none => .bad)
    | _ => .bad)
  | _, _, _ => .bad
def sAug (j : Nat) (ea : EE) : ES := fun env st => match env[j]? with
  | some (some (.d (.int k))) => (ea env st).bindS env fun v s => (match v with
    | .d (.int n) => .ok (.nx (env.set j (some (.d (.int (k + n)))))) s
    | _ => .bad)
  | _ => .bad
def eIndex (eo ea : EE) : EE := fun env st => (eo env st).bind fun v s1 => match lsOf v s1 with
  | some _ => (ea env s1).bind fun u s2 => (match lsOf v s2, datOf u s2 with
    | some xs, some d => if fitsIn xs d = true ∧ small xs.length = true then (match xs.findIdx? (fun y => PyData.eqv y d) with
      | some j => .ok (.d (.int (j : Nat))) s2
      | none => .bad) else .bad
    | _, _ => .bad)
  | none => .bad
def rIdx (X : Cx) (cl : Nat → Addr) : V → List V → Hp → VK → Prop := fun x vs H Q => ∃ G m st av bv y xs d j, vs = [y] ∧ Rl (rc X cl) G m H st ∧ RepV (rc X cl) G m x av ∧ RepV (rc X cl) G m y bv ∧ lsOf av st = some xs ∧ datOf bv st = some d ∧ fitsIn xs d = true ∧ small xs.length = true ∧ xs.findIdx? (fun y => PyData.eqv y d) = some j ∧ Q (.int (j : Nat)) H
theorem mt_idx (hu : X.A.units + 200 < cLine) : MtM X "list.index" (rIdx X cl) := by
  intro pins s σ H x vs v us Q I rx rv h
  obtain ⟨G, m, st, av, bv, y, xs, d, j, rfl, rl, ra, rb, e1, e2, hf, hs, ej, hq⟩ := h
  obtain ⟨u, rfl, ru⟩ := rv.one
  obtain ⟨f1, f2, f3⟩ := fitsIn_is hf
  obtain ⟨bs, r1⟩ := Dp.reads I d y u (dat_of rl rb e2 f2) ru
  obtain ⟨l, ws, rfl, k, rw'⟩ := ls_of rl ra e1
  obtain ⟨as, r2⟩ := Dp.reads I (.list xs) _ v (.lst (SqL.of k) (RepAll.dp rl.sub f1 rw')) rx
  cases rx
  cases r2 with
  | @list _ ob vals n _ as h1 h2 h3 h4 =>
    obtain ⟨cls, dd, data, sl⟩ := ob
    simp only at h2 h3
    subst h2 h3
    have mp := SeqAt.readsAll_map_plain xs _ _ f1 h4
    have hlen : vals.size = xs.length := by rw [← mp]; simp
    obtain ⟨hj, hit, hno⟩ := List.findIdx?_eq_some_iff_getElem.mp ej
    have hjv : j < vals.size := by omega
    have rd : ∀ (n : Nat) (hn : n < vals.size) (hn2 : n < xs.length), SeqAt.readOf s.heap vals[n] = xs[n] := fun n hn hn2 => by
      have : (vals.toList.map (SeqAt.readOf s.heap))[n]? = xs[n]? := by rw [mp]
      rw [List.getElem?_map, List.getElem?_eq_getElem (by simpa using hn), List.getElem?_eq_getElem hn2] at this
      simpa using this
    have sm : xs.length ≤ 1000000 := by simpa [small] using hs
    refine call_meets F.slot_list_index ⟨_, h1, rfl⟩ F.entry_list_index (F.args_list_index_2 _ _)
      (SeqAt.list_indexAt l vals n dd sl u (fun y => PyData.eqv (SeqAt.readOf s.heap y) d) j hjv (by omega) (by rw [rd j hjv hj]; exact hit) (fun n hn hlt => by rw [rd n hn (by omega)]; simpa using hno n hlt)) ⟨h1, SeqAt.items_plain h4 r1 f1 f2 (by omega), ?_⟩
    exact ⟨.int _, H, I.tok _, ⟨_, rfl⟩, hq⟩
theorem se_index (hu : X.A.units + 200 < cLine) (ho : SE cl X W o ea) (ha : SE cl X W a eb) (hbase : attributeBase o "index" X.env (eval o X.env) = eval o X.env := by rfl)
    (hfew : ((backTo pos (starEach [a] X.env)).all (fun x => !x.1) && (backToKw pos (keywordEach [] X.env)).all (fun x => x.1.isSome) && decide ([a].length + ([] : List Keyword).length + (if ([] : List Keyword).isEmpty then 0 else 1) < 30)) = true := by rfl)
    (hline : (apos.endLine == pos.line) = true := by rfl) (hs : starEach [a] X.env = (false, eval a X.env) :: starEach [] X.env := by rfl) (hplain : (backTo pos (starEach [] X.env)).any (·.1) = false := by rfl) :
    SE cl X W (.Call (.Attribute o "index" apos) [a] [] pos) (eIndex ea eb) :=
  (pe_bm PySem.F.plainAttrs_list PySem.F.slot_list_index PySem.F.type_list_index (mt_idx (cl := cl) hu) ho (pa_cons ha pa_nil hs) hbase hfew hline hs hplain).impM fun σ H Q h => by
  obtain ⟨G, m, env, st, rl, en, p⟩ := h
  refine ⟨G, m, env, st, rl, en, Post.bindE p fun v s1 x H1 G1 m1 _ e1 rl1 r1 p1 => ?_⟩
  split at p1
  · rename_i ys ey
    obtain ⟨b', us, rfl, hb, rb⟩ := ls_of rl1 r1 ey
    refine ⟨.inl ⟨rfl, us, SqL.of hb⟩, G1, m1, env, s1, rl1, en.ext e1, Post.bindE p1 fun u s2 y H2 G2 m2 _ e2 rl2 r2 p2 => ?_⟩
    split at p2
    · rename_i xs d ex ed
      split at p2
      · rename_i hc
        split at p2
        · rename_i j ej
          exact ⟨G2, m2, s2, v, u, y, xs, d, j, rfl, rl2, r1.ext e2, r2, ex, ed, hc.1, hc.2, ej, p2 _ H2 G2 m2 (Ext.refl _ _ _) rl2 (.d (.int _))⟩
        · exact p2.elim
      · exact p2.elim
    · exact p2.elim
  · exact p1.elim
end
/-! step equations -/
def lputF (v x y : Val) (env : Ev) (s3 : Sto) : R Fl := match x, y, toD v s3 with
  | .r j, .d (.int k), some (d, s4) => (match s4[j]? with
    | some (.lst xs) => (match ixN xs.length k with
      | some n => .ok (.nx env) (s4.set j (.lst (xs.set n d)))
      | none => .bad)
    | _ => .bad)
  | _, _, _ => .bad
def R.lput3 (r : R Val) (v x : Val) (env : Ev) : R Fl := r.bindS env fun y s3 => lputF v x y env s3
def R.lput2 (r : R Val) (v : Val) (ei : EE) (env : Ev) : R Fl := r.bindS env fun x s2 => (ei env s2).lput3 v x env
def R.lput1 (r : R Val) (eo ei : EE) (env : Ev) : R Fl := r.bindS env fun v s1 => (eo env s1).lput2 v ei env
@[simp] theorem lput3_ok (y : Val) (s : Sto) (v x : Val) (env : Ev) : (R.ok y s).lput3 v x env = lputF v x y env s := rfl
@[simp] theorem lput2_ok (x : Val) (s : Sto) (v : Val) (ei : EE) (env : Ev) : (R.ok x s).lput2 v ei env = (ei env s).lput3 v x env := rfl
@[simp] theorem lput1_ok (v : Val) (s : Sto) (eo ei : EE) (env : Ev) : (R.ok v s).lput1 eo ei env = (eo env s).lput2 v ei env := rfl
@[simp] theorem sLPut_eq (eo ei ev : EE) (env : Ev) (st : Sto) : sLPut eo ei ev env st = (ev env st).lput1 eo ei env := rfl
def R.augS (r : R Val) (env : Ev) (j : Nat) (k : Int) : R Fl := r.bindS env fun v s => match v with
    | .d (.int n) => .ok (.nx (env.set j (some (.d (.int (k + n)))))) s
    | _ => .bad
@[simp] theorem augS_ok (n : Int) (s : Sto) (env : Ev) (j : Nat) (k : Int) : (R.ok (.d (.int n)) s).augS env j k = .ok (.nx (env.set j (some (.d (.int (k + n)))))) s := rfl
def augG (x : Option (Option Val)) (ea : EE) (env : Ev) (st : Sto) (j : Nat) : R Fl := match x with
  | some (some (.d (.int k))) => (ea env st).augS env j k
  | _ => .bad
@[simp] theorem augG_ok (k : Int) (ea : EE) (env : Ev) (st : Sto) (j : Nat) : augG (some (some (.d (.int k)))) ea env st j = (ea env st).augS env j k := rfl
@[simp] theorem sAug_eq (j : Nat) (ea : EE) (env : Ev) (st : Sto) : sAug j ea env st = augG env[j]? ea env st j := by
  unfold sAug augG
  split <;> rfl
def R.idx2 (r : R Val) (v : Val) : R Val := r.bind fun u s2 => match lsOf v s2, datOf u s2 with
    | some xs, some d => if fitsIn xs d = true ∧ small xs.length = true then (match xs.findIdx? (fun y => PyData.eqv y d) with
      | some j => .ok (.d (.int (j : Nat))) s2
      | none => .bad) else .bad
    | _, _ => .bad
def R.idx1 (r : R Val) (ea : EE) (env : Ev) : R Val := r.bind fun v s1 => match lsOf v s1 with
  | some _ => (ea env s1).idx2 v
  | none => .bad
@[simp] theorem idx1_list (xs : List D) (s : Sto) (ea : EE) (env : Ev) : (R.ok (.d (.list xs)) s).idx1 ea env = (ea env s).idx2 (.d (.list xs)) := rfl
@[simp] theorem eIndex_eq (eo ea : EE) (env : Ev) (st : Sto) : eIndex eo ea env st = (eo env st).idx1 ea env := rfl
end Mi
end

section
set_option maxRecDepth 100000
set_option autoImplicit false
/-! a list that is not written any more is read as data from here on -/
namespace Mi
open PySem PySem.Spec L2
def frzV (i : Nat) (env : Ev) (st : Sto) : Option (Ev × Sto) := match env[i]? with
  | some (some (.r j)) => (match st[j]? with
    | some (.lst xs) => some (env.set i (some (.d (.list xs))), st.set j .gone)
    | _ => none)
  | _ => none
def sFrz (i : Nat) (eb : ES) : ES := fun env st => match frzV i env st with
  | some (e, s) => eb e s
  | none => .bad
/-! step -/
def frzG (i : Nat) (x : Option (Option Val)) (eb : ES) (env : Ev) (st : Sto) : R Fl := match x with
  | some (some (.r j)) => (match st[j]? with
    | some (.lst xs) => eb (env.set i (some (.d (.list xs)))) (st.set j .gone)
    | _ => .bad)
  | _ => .bad
@[simp] theorem frzG_r (i j : Nat) (eb : ES) (env : Ev) (st : Sto) : frzG i (some (some (.r j))) eb env st = match st[j]? with
    | some (.lst xs) => eb (env.set i (some (.d (.list xs)))) (st.set j .gone)
    | _ => .bad := rfl
@[simp] theorem sFrz_eq (i : Nat) (eb : ES) (env : Ev) (st : Sto) : sFrz i eb env st = frzG i env[i]? eb env st := by
  unfold sFrz frzV frzG
  split <;> rename_i h
  · split at h
    · split at h
      · cases h; rename_i q _ _ r; simp [q, r]
      · cases h
    · cases h
  · split
    · rename_i q
      simp only [q] at h
      split
      · rename_i r; simp [r] at h
      · rfl
    · rfl
end Mi
end

section
set_option maxRecDepth 100000
set_option autoImplicit false
/-! {k: v for .. in .. if ..}, k a tuple -/
namespace Mi
open PySem PySem.Spec PyProof.Rows L2
section
variable {cl : Nat → Addr} {X : Cx}
end
def compN (tg : Tg) (tt : ET) (ek ee : EE) (env : Ev) : List D → List (D × D) → Sto → R (List (D × D))
  | [], acc, st => .ok acc st
  | x :: xs, acc, st => match tg.put x env with
    | none => .bad
    | some e1 => (noX (tt e1 st)).bind fun b s1 => match b with
      | false => compN tg tt ek ee env xs acc s1
      | true => (noX (ek e1 s1)).bind fun k s2 => (noX (ee e1 s2)).bind fun v s3 => match k, toD v s3 with
        | .d (.tuple ks), some (d, s4) => (match nk (.tuple ks) with
          | some k => if k.depth ≤ 8 then compN tg tt ek ee env xs (nPut acc k (.tuple ks) d) s4 else .bad
          | none => .bad)
        | _, _ => .bad
section
variable {cl : Nat → Addr} {X : Cx} {W : WX} {pos : Pos} {t a c kx vx : Expr} {ifs : List Expr} {ei : EI} {tg : Tg} {tt : ET} {ek ee : EE}
/-- a dict that may be changed; one that is data -/
def eDcNR (vs : List Nat) (tg : Tg) (ei : EI) (tt : ET) (ek ee : EE) : EE := fun env st => (ei env st).bind fun xs s => if small xs.length = true then (compN tg tt ek ee (wipeE env vs) xs [] s).bind fun ds s2 => .ok (.r s2.length) (s2 ++ [.dN ds]) else .bad
def eDcNF (vs : List Nat) (tg : Tg) (ei : EI) (tt : ET) (ek ee : EE) : EE := fun env st => (ei env st).bind fun xs s => if small xs.length = true then (compN tg tt ek ee (wipeE env vs) xs [] s).bind fun ds s2 => .ok (.d (.dict ((.none, .none) :: ds))) s2 else .bad
variable {scope : Scope} {own : List (Str × Nat)}
end
/-! steps -/
def R.dcdN (r : R (List (D × D))) : R Val := r.bind fun ds s2 => .ok (.d (.dict ((.none, .none) :: ds))) s2
def R.dcrN (r : R (List (D × D))) : R Val := r.bind fun ds s2 => .ok (.r s2.length) (s2 ++ [.dN ds])
@[simp] theorem dcdN_ok (ds : List (D × D)) (s : Sto) : (R.ok ds s).dcdN = .ok (.d (.dict ((.none, .none) :: ds))) s := rfl
@[simp] theorem dcrN_ok (ds : List (D × D)) (s : Sto) : (R.ok ds s).dcrN = .ok (.r s.length) (s ++ [.dN ds]) := rfl
def R.dcNFE (r : R (List D)) (vs : List Nat) (tg : Tg) (tt : ET) (ek ee : EE) (env : Ev) : R Val := r.bind fun xs s => if small xs.length = true then (compN tg tt ek ee (wipeE env vs) xs [] s).dcdN else .bad
def R.dcNRE (r : R (List D)) (vs : List Nat) (tg : Tg) (tt : ET) (ek ee : EE) (env : Ev) : R Val := r.bind fun xs s => if small xs.length = true then (compN tg tt ek ee (wipeE env vs) xs [] s).dcrN else .bad
@[simp] theorem dcNFE_ok (xs : List D) (s : Sto) (vs : List Nat) (tg : Tg) (tt : ET) (ek ee : EE) (env : Ev) : (R.ok xs s).dcNFE vs tg tt ek ee env = if small xs.length = true then (compN tg tt ek ee (wipeE env vs) xs [] s).dcdN else .bad := rfl
@[simp] theorem dcNRE_ok (xs : List D) (s : Sto) (vs : List Nat) (tg : Tg) (tt : ET) (ek ee : EE) (env : Ev) : (R.ok xs s).dcNRE vs tg tt ek ee env = if small xs.length = true then (compN tg tt ek ee (wipeE env vs) xs [] s).dcrN else .bad := rfl
@[simp] theorem eDcNF_eq (vs : List Nat) (tg : Tg) (ei : EI) (tt : ET) (ek ee : EE) (env : Ev) (st : Sto) : eDcNF vs tg ei tt ek ee env st = (ei env st).dcNFE vs tg tt ek ee env := rfl
@[simp] theorem eDcNR_eq (vs : List Nat) (tg : Tg) (ei : EI) (tt : ET) (ek ee : EE) (env : Ev) (st : Sto) : eDcNR vs tg ei tt ek ee env st = (ei env st).dcNRE vs tg tt ek ee env := rfl
end Mi
end

section
set_option maxRecDepth 100000
set_option autoImplicit false
/-! name = [.. for .. for ..] -/
namespace Mi
open PySem PySem.Spec L2
section
variable {cl : Nat → Addr} {X : Cx} {W : WX} {pos : Pos} {t a c elt t1 a1 : Expr} {ifs ifs1 : List Expr} {ei ei1 : EI} {tg tg1 : Tg} {tt tt1 : ET} {ee : EE} {scope : Scope} {own : List (Str × Nat)} {vs1 : List Nat}
end
end Mi
end

section
set_option maxRecDepth 100000
set_option autoImplicit false
namespace Mi
open PySem PySem.Spec L2

/-! ### calls of defs, by a table -/
def eCl (n : Nat) (f : FN) (a : EA) : EE := fun env st => (a env st).bind fun vs s => if vs.length = n then f vs s else .bad
structure FokP (cl : Nat → Addr) (P : Program) (w : World) (K : PySem.W.Frag) (mg : Str → Option Value) (base : Heap) (k : Nat) (x : Str) (n : Nat) (f : FN) : Prop where
  ok : ∃ (fa : Addr) (fd : FuncData) (ps : List Str), ps.length = n ∧ FnOk P w K mg base (L2N.CX P w) k fa fd ps (spF ⟨K, w, cl⟩ n f) ∧ mg x = some (.ref fa) ∧ PySem.W.keepIn K (.ref fa) = true ∧ Binds K fd ps []
section
variable {cl : Nat → Addr} {X : Cx} {W : WX} {pos p : Pos} {a b : Expr} {es : List Expr} {er : EA} {ea : EE} {x : Str} {k n : Nat} {f : FN}
theorem se_cl (F : FokP cl X.prog X.w X.K X.mg X.base k x n f) (hr : Room k X.A) (tk : L2N.Takes X W) (hg : Gl X x) (ha : SA cl X W (a :: es) er) (hdb : (x == ("__debug__" : Str)) = false := by decide)
    (he : starEach (a :: es) X.env = (false, eval a X.env) :: starEach es X.env := by rfl) (hpl : (backTo pos (starEach es X.env)).any (·.1) = false := by rfl) : SE cl X W (.Call (.Name x p) (a :: es) [] pos) (eCl n f er) := by
  obtain ⟨fa, fd, ps, hp, F, hm, hk, hb⟩ := F.ok
  refine (pe_callS F hr hg hm hk hb (fun σ => L2N.passAt tk σ) ha hdb he hpl).impM fun σ H Q h => ?_
  obtain ⟨G, m, env, st, rl, en, p⟩ := h
  refine ⟨G, m, env, st, rl, en, Post.bindE p fun v s1 x H1 G1 m1 e0 e1 rl1 r1 p1 => ?_⟩
  split at p1
  · rename_i hl
    exact ⟨G1, m1, s1, v, rl1, r1, hl, p1⟩
  · exact p1.elim
theorem takes0N : L2N.Takes X (fun _ _ _ _ => False) := fun _ _ ⟨_, _, _, _, _, _, _, _, _, _, _, _, _, _, _, _, w⟩ => w.elim
/-- nothing is asked of what never answers -/
theorem fok_bad {P : Program} {w : World} {K : PySem.W.Frag} {mg : Str → Option Value} {base : Heap} {fa : Addr} {fd : FuncData} {ps : List Str} (hp : ps.length = n) (hm : mg x = some (.ref fa)) (hk : PySem.W.keepIn K (.ref fa) = true) (hb : Binds K fd ps []) {k0 : Nat} : FokP cl P w K mg base k0 x n (fun _ _ => .bad) := by
  refine ⟨fa, fd, ps, hp, ?_, hm, hk, hb⟩
  have no : ∀ vs H Q E, ¬ spF ⟨K, w, cl⟩ n (fun _ _ => .bad) vs H Q E := fun vs H Q E ⟨G, m, st, as, rl, ra, hl, p⟩ => p
  exact ⟨fun vs H Q E h => absurd h (no vs H Q E), fun A outer s H args us vs Q E _ _ _ _ h => absurd h (no vs H Q E)⟩
/-- a def by its body -/
theorem fok_of {P : Program} {w : World} {K : PySem.W.Frag} {mg : Str → Option Value} {base : Heap} {k : Nat} {x qual : Str} {params : Arguments} {body : List Stmt} {scope : Scope} {dvs : List V} {kws : List (Str × V)} {fa : Addr} {fd : FuncData} {N ps : List Str} {ev : ES} {cl : Nat → Addr} {y : Str} {f : FN}
    (F : FunD K x qual params body scope dvs kws fa fd) (S : FnScope N ps scope) (hle : ps.length ≤ N.length) (hm : mg y = some (.ref fa)) (hb : Binds K fd ps []) (hf : f = runF N.length ps.length ev) (hn : n = ps.length)
    (h : ∀ (cdv : Value) (A : Around) (outer : List Env) (s : Shared) (H : Hp) (E : XK), Room k (cxOf (L2N.CX P w) P w K mg base N qual scope fa cdv A outer s H E).A → L2N.Takes (cxOf (L2N.CX P w) P w K mg base N qual scope fa cdv A outer s H E) (fun cls d _ H' => E cls d H') →
      PassesOwn (model P w) (cxOf (L2N.CX P w) P w K mg base N qual scope fa cdv A outer s H E).A (cxOf (L2N.CX P w) P w K mg base N qual scope fa cdv A outer s H E).env (cxOf (L2N.CX P w) P w K mg base N qual scope fa cdv A outer s H E).xe →
      SSs cl (cxOf (L2N.CX P w) P w K mg base N qual scope fa cdv A outer s H E) (fun cls d _ H' => E cls d H') body ev) : FokP cl P w K mg base (k + 1) y n f := by
  subst hf hn
  refine ⟨fa, fd, ps, rfl, ?_, hm, F.kp, hb⟩
  refine F.ok S (fun vs H Q E h => ?_) (fun cdv A outer s H vs Q E hr hh => ?_)
  · obtain ⟨G, m, st, as, rl, ra, hl, p⟩ := h
    rw [ra.length, hl]
  · exact ⟨_, h cdv A outer s H E hr (L2N.takes_of rfl rfl rfl rfl) (passes_of rfl), fn_sound_aux hle hh⟩
end
end Mi
namespace Mi
open PySem PySem.Spec L2
/-! ### constants of the module -/
def GC (C : RC) (mg : Str → Option Value) (x : Str) (d : D) : Prop := ∃ u v, mg x = some u ∧ RelV v u ∧ ∀ G, Rep C G v d
mutual
def repK (K : PySem.W.Frag) : Nat → Value → D → Bool
  | _, .none, .none => true
  | _, .bool b, .bool c => b == c
  | _, .int i _, .int j => decide (i = j)
  | _, .str x _, .str y => decide (x = y)
  | n + 1, .ref a, .tuple ds => (match K.lookup a with
    | some ⟨.type c, _, .seq its _, _⟩ => decide (c = "tuple") && (decide (its.size ≤ sizeLine) && repKs K n its.toList ds)
    | _ => false)
  | _, _, _ => false
def repKs (K : PySem.W.Frag) : Nat → List Value → List D → Bool
  | _, [], [] => true
  | n, v :: vs, d :: ds => repK K n v d && repKs K n vs ds
  | _, _, _ => false
end
mutual
theorem repK_ok {K : PySem.W.Frag} {w : World} {cl : Nat → Addr} : ∀ (n : Nat) (u : Value) (d : D), repK K n u d = true → ∃ v, RelV v u ∧ ∀ G, Rep ⟨K, w, cl⟩ G v d
  | n, u, .none, h => by
    cases u <;> first | exact ⟨.non, rfl, fun _ => .non⟩ | (exfalso; cases n <;> simp [repK] at h)
  | n, u, .bool c, h => by
    cases u with
    | bool b =>
      have e : (b == c) = true := by cases n <;> simpa [repK] using h
      have e : b = c := eq_of_beq e
      subst e; exact ⟨.bl b, rfl, fun _ => .bl b⟩
    | _ => exfalso; cases n <;> simp [repK] at h
  | n, u, .int c, h => by
    cases u with
    | int b t =>
      have e : b = c := by cases n <;> simpa [repK] using h
      subst e; exact ⟨.int b, ⟨t, rfl⟩, fun _ => .int b⟩
    | _ => exfalso; cases n <;> simp [repK] at h
  | n, u, .str c, h => by
    cases u with
    | str b t =>
      have e : b = c := by cases n <;> simpa [repK] using h
      subst e; exact ⟨.str b, ⟨t, rfl⟩, fun _ => .str b⟩
    | _ => exfalso; cases n <;> simp [repK] at h
  | n, u, .list _, h => by exfalso; cases u <;> cases n <;> simp [repK] at h
  | n, u, .dict _, h => by exfalso; cases u <;> cases n <;> simp [repK] at h
  | 0, u, .tuple ds, h => by exfalso; cases u <;> simp [repK] at h
  | n + 1, u, .tuple ds, h => by
    cases u with
    | ref a =>
      simp only [repK] at h
      split at h
      · rename_i c od its k sl e
        simp only [Bool.and_eq_true, decide_eq_true_eq] at h
        obtain ⟨h1, h2, h3⟩ := h
        obtain ⟨vs, r1, r2⟩ := repKs_ok (w := w) (cl := cl) n its.toList ds h3
        exact ⟨.ref a, rfl, fun G => .tup (.inr ⟨_, its, k, e, by rw [h1], rfl, h2, r1⟩) (r2 G)⟩
      · cases h
    | _ => exfalso; simp [repK] at h
theorem repKs_ok {K : PySem.W.Frag} {w : World} {cl : Nat → Addr} : ∀ (n : Nat) (us : List Value) (ds : List D), repKs K n us ds = true → ∃ vs, Vals vs us ∧ ∀ G, RepAll ⟨K, w, cl⟩ G vs ds
  | n, [], [], h => ⟨[], .nil, fun _ => .nil⟩
  | n, _ :: _, [], h => by simp [repKs] at h
  | n, [], _ :: _, h => by simp [repKs] at h
  | n, u :: us, d :: ds, h => by
    simp only [repKs, Bool.and_eq_true] at h
    obtain ⟨v, r1, r2⟩ := repK_ok (w := w) (cl := cl) n u d h.1
    obtain ⟨vs, r3, r4⟩ := repKs_ok (w := w) (cl := cl) n us ds h.2
    exact ⟨v :: vs, .cons r1 r3, fun G => .cons (r2 G) (r4 G)⟩
end
def gcB (K : PySem.W.Frag) (x : Str) (d : D) : Bool := match PySem.W.nsIn K mainGlobals x with
  | some (some u) => repK K 20 u d
  | _ => false
theorem gcB_ok {K : PySem.W.Frag} {w : World} {cl : Nat → Addr} {h : Heap} {mg : Str → Option Value} (X : K.In h) (G : h.Ns mainGlobals mg) {x : Str} {d : D} (c : gcB K x d = true) : GC ⟨K, w, cl⟩ mg x d := by
  unfold gcB at c
  split at c
  · rename_i u e
    obtain ⟨v, r1, r2⟩ := repK_ok (w := w) (cl := cl) 20 u d c
    exact ⟨u, v, PySem.W.mg_of X G e, r1, r2⟩
  · cases c
section
variable {cl : Nat → Addr} {X : Cx} {W : WX} {pos : Pos} {a : Expr} {ea : EE}
theorem se_gc {x : Str} {d : D} (h : GC (rc X cl) X.mg x d) (hg : Gl X x) (hd : (x == ("__debug__" : Str)) = false := by decide) : SE cl X W (.Name x pos) (eC d) := by
  obtain ⟨u, v, hm, rv, rd⟩ := h
  exact se_glob rd hg hm rv hd
def eNeg (a : EE) : EE := fun env st => (a env st).bind fun v s => match v with
  | .d (.int i) => .ok (.d (.int (-i))) s
  | _ => .bad
theorem se_neg (ha : SE cl X W a ea) : SE cl X W (.UnaryOp .USub a pos) (eNeg ea) := (pe_un un_neg ha).impM fun σ H Q h => by
  obtain ⟨G, m, env, st, rl, en, p⟩ := h
  refine ⟨G, m, env, st, rl, en, Post.bindE p fun v s1 x H1 G1 m1 _ e1 rl1 r1 p1 => ?_⟩
  split at p1
  · cases r1 with
    | d r => cases r; exact ⟨_, rfl, p1 _ H1 G1 m1 (Ext.refl _ _ _) rl1 (.d (.int _))⟩
  · exact p1.elim
end
/-! ### the built-ins' names -/
def bltns : List Str := ["len", "range", "isinstance", "all", "any", "tuple", "list", "int", "bool", "str", "zip", "enumerate", "sorted", "set", "max", "min", "sum", "dict", "ValueError", "Exception"]
structure Bl (mg : Str → Option Value) : Prop where
  all : ∀ x ∈ bltns, mg x = none
def blB (K : PySem.W.Frag) : Bool := bltns.all fun x => (He.Fa.free x).ok K
theorem blB_ok {K : PySem.W.Frag} {h : Heap} {mg : Str → Option Value} (X : K.In h) (G : h.Ns mainGlobals mg) (c : blB K = true) : Bl mg :=
  ⟨fun x hx => He.free_ok X G (List.all_eq_true.mp c x hx)⟩
theorem Bl.g {mg : Str → Option Value} (b : Bl mg) (x : Str) (h : x ∈ bltns := by decide +kernel) : mg x = none := b.all x h
theorem Bl.len_ {mg : Str → Option Value} (b : Bl mg) : mg "len" = none := b.g "len"
theorem Bl.range_ {mg : Str → Option Value} (b : Bl mg) : mg "range" = none := b.g "range"
theorem Bl.isinstance_ {mg : Str → Option Value} (b : Bl mg) : mg "isinstance" = none := b.g "isinstance"
theorem Bl.all_ {mg : Str → Option Value} (b : Bl mg) : mg "all" = none := b.g "all"
theorem Bl.tuple_ {mg : Str → Option Value} (b : Bl mg) : mg "tuple" = none := b.g "tuple"
theorem Bl.int_ {mg : Str → Option Value} (b : Bl mg) : mg "int" = none := b.g "int"
theorem Bl.bool_ {mg : Str → Option Value} (b : Bl mg) : mg "bool" = none := b.g "bool"
theorem Bl.str_ {mg : Str → Option Value} (b : Bl mg) : mg "str" = none := b.g "str"
theorem Bl.zip_ {mg : Str → Option Value} (b : Bl mg) : mg "zip" = none := b.g "zip"
theorem Bl.max_ {mg : Str → Option Value} (b : Bl mg) : mg "max" = none := b.g "max"
theorem Bl.min_ {mg : Str → Option Value} (b : Bl mg) : mg "min" = none := b.g "min"
def globB (K : PySem.W.Frag) (x : Str) : Bool := (He.Fa.glo x).ok K
theorem bb_len : bootBuiltins "len" = some (.builtin "len") := by decide +kernel
theorem bb_all : bootBuiltins "all" = some (.builtin "all") := by decide +kernel
theorem bb_max : bootBuiltins "max" = some (.builtin "max") := by decide +kernel
theorem bb_min : bootBuiltins "min" = some (.builtin "min") := by decide +kernel
theorem bb_tuple : bootBuiltins "tuple" = some (.type "tuple") := by decide +kernel
theorem bb_int : bootBuiltins "int" = some (.type "int") := by decide +kernel
theorem bb_bool : bootBuiltins "bool" = some (.type "bool") := by decide +kernel
theorem bb_str : bootBuiltins "str" = some (.type "str") := by decide +kernel
theorem units_of {A : Around} {k : Nat} (hr : Room k A) : A.units + 200 < cLine := by have := hr.un; omega
end Mi
end

section
set_option maxRecDepth 100000
set_option maxHeartbeats 2000000
set_option autoImplicit false
namespace Mi
open PySem PySem.Spec PyProof.Rows L2

/-! ### try: several clauses, some with a name -/
abbrev TH := Addr → Value → Option Addr → TS
/-- the name of the clause is unbound behind it -/
def offN (i : Nat) (D : Ends) : Ends := { nx := fun σ H => D.nx (σ.set i none) H, rt := D.rt, bk := fun σ H => D.bk (σ.set i none) H, ct := fun σ H => D.ct (σ.set i none) H }
def wCl (K : PySem.W.Frag) (i : Nat) (Wo : WX) (D : Ends) : List (Value × Bool × TH) → WX
  | [] => Wo
  | q :: l => fun cls d σ H => ∃ r, PySem.W.exmOne K cls q.1 = some r ∧ (r = true → ∀ a, H a = none → (q.2.1 = true → q.2.2 a cls d (offN i D) (σ.set i (some (.ref a))) H) ∧ (q.2.1 = false → q.2.2 a cls d D σ H)) ∧ (r = false → wCl K i Wo D l cls d σ H)
inductive Cls3 (X : Cx) (i : Nat) (n : Str) : List ExceptHandler → List (Value × Bool × TH) → Prop
  | nil : Cls3 X i n [] []
  | named {x : Str} {c : Value} {ts : TH} {b0 : Stmt} {su : List Stmt} {p p2 : Pos} {hds : List ExceptHandler} {l : List (Value × Bool × TH)} (hc : Names X x c)
      (hsu : ∀ (a : Addr) (oe : Obj) (cls : Value) (d : Option Addr) (pn : List (Addr × Obj)), L2N.Zn cls d oe → (∃ vs, oe.data = .fields vs) → PSs (X.suite a ((a, oe) :: pn)) (b0 :: su) (ts a cls d))
      (hi : X.N[i]? = some n) (hl : X.env.kindOf n = some .local) (r : Cls3 X i n hds l) : Cls3 X i n (.ExceptHandler (some (.Name x p)) (some n) (b0 :: su) p2 :: hds) ((c, true, ts) :: l)
  | bare {x : Str} {c : Value} {ts : TH} {b0 : Stmt} {su : List Stmt} {p p2 : Pos} {hds : List ExceptHandler} {l : List (Value × Bool × TH)} (hc : Names X x c)
      (hsu : ∀ (a : Addr) (oe : Obj) (cls : Value) (d : Option Addr) (pn : List (Addr × Obj)), L2N.Zn cls d oe → (∃ vs, oe.data = .fields vs) → PSs (X.suite a ((a, oe) :: pn)) (b0 :: su) (ts a cls d))
      (r : Cls3 X i n hds l) : Cls3 X i n (.ExceptHandler (some (.Name x p)) none (b0 :: su) p2 :: hds) ((c, false, ts) :: l)
section
variable {X : Cx} {i : Nat} {n : Str} {body : List Stmt} {h0 : ExceptHandler} {hds : List ExceptHandler} {l : List (Value × Bool × TH)} {pos : Pos} {tb : WX → TS} {Wo : WX}
theorem ps_tryC (hs : X.stack = X.env :: X.outer) (hf : X.env.frame = some X.env.locals) (hN : X.N.Nodup) (tk : L2N.Takes X Wo)
    (hb : ∀ (W : WX) (pn : List (Addr × Obj)) (xe : Value → Shared → Prop), L2N.Takes (X.tr pn xe) W → PassesOwn (model X.prog X.w) X.A X.env xe → PSs (X.tr pn xe) body (tb W))
    (hh : Cls3 X i n (h0 :: hds) l) : PS X (.Try body (h0 :: hds) [] [] pos) (fun D σ H => tb (wCl X.K i Wo D l) D σ H) := by
  constructor
  intro pins s σ H D I h
  have ok := I.ok
  have fr : X.A.frames = some (X.env :: X.outer) := ok.frames.trans (congrArg some hs)
  apply wpAny_Try_except
  have run := (hb (wCl X.K i Wo D l) (X.pn ++ pins) (fun e t1 => wpAny (model X.prog X.w) X.A (noteFrame e X.env) (fun _ t2 => wpAny (model X.prog X.w) X.A (setFlight e none) (fun _ t3 => wpAny (model X.prog X.w) X.A (handleBy e X.env (h0 :: hds)) (SP X pins D) X.xe t3) X.xe t2) X.xe t1) (fun u s' xx => ?take) PassesOwn.looking).run [] s σ H D (I.toTry _) h
  case take =>
    obtain ⟨a, B, sI, pins', τ, K1, cls, d, rfl, J', nb, up, sky, na, os, ag, w⟩ := xx
    have J : Inv X pins τ K1 sI := J'.ofTry ok
    rw [show (X.tr (X.pn ++ pins) _).stack = X.env :: X.outer from hs] at sky
    show wpAny (model X.prog X.w) X.A (noteFrame (.ref a) X.env) _ _ _
    apply L2N.Sky.land L2N.Zn.steady fr hf sky
    intro g3 fl3 up3
    have J3 : Inv X pins τ K1 { s' with heap := g3 } := J.landed nb fl3.1 (up.trans up3) os ag
    obtain ⟨o3, v3, e3, z3, d3⟩ := fl3.there
    have out : a ∉ frs (X.env :: X.outer) := fun hm => by
      obtain ⟨_, o', e', nn⟩ := fl3.2.2.1.mem hm
      rw [e3] at e'
      cases e'
      exact nn _ d3
    have nL : a ≠ X.env.locals := fun z => out (List.mem_filterMap.mpr ⟨X.env, List.mem_cons_self, by rw [hf, z]⟩)
    have nF : a ∉ X.fs := fun hm => by
      obtain ⟨e, he, q⟩ := List.mem_filterMap.mp hm
      exact out (List.mem_filterMap.mpr ⟨e, List.mem_cons_of_mem _ he, q⟩)
    have S3 := J3.suite e3 d3 na nL nF
    have LT : PySem.W.Looks (model X.prog X.w) g3 (typeOf (.ref a)) cls := fun A Q E s k q => wpAny_typeOf_ref (k _ _ e3) (by rw [z3.1]; exact q)
    have nam : ∀ {x : Str} {c : Value} {p : Pos} {Q : Value → Shared → Prop} {E : Value → Shared → Prop}, Names X x c → Q c { s' with heap := g3 } → wpAny (model X.prog X.w) (X.A.mark (some (.ref a))) (eval (.Name x p) X.env) Q E { s' with heap := g3 } := fun {x c p Q E} hc q => by
      obtain ⟨hg, hdb, hm | ⟨hm, hv, hn⟩⟩ := hc
      · exact ld_glob (X := X.suite a ((a, o3) :: (X.pn ++ pins))) S3 hg hm q hdb
      · exact ld_blt (X := X.suite a ((a, o3) :: (X.pn ++ pins))) S3 hg hm hv q hn hdb
    have go : ∀ {hd' : List ExceptHandler} {l' : List (Value × Bool × TH)}, Cls3 X i n hd' l' → wCl X.K i Wo D l' cls d τ K1 → wpAny (model X.prog X.w) X.A (handleBy (.ref a) X.env hd') (SP X pins D) X.xe { s' with heap := g3 } := by
      intro hd' l' hk
      induction hk with
      | nil =>
        intro w
        apply wpAny_handleBy_nil
        obtain ⟨k1, k2, k3, oe, vs, T, oT, tq, he, hz, hd, h1, hr⟩ := id fl3
        unfold PySem.passOn
        refine wpAny_bind (wpAny_field he hd h1 ?_)
        rw [if_neg (show ¬ ((Value.ref T == Value.none) = true) by simp)]
        have up5 : wpAny (model X.prog X.w) X.A (setFlight (.ref a) X.env.frame) (fun _ s4 => wpAny (model X.prog X.w) X.A (throw (.ref a) : Sem Flow) (SP X pins D) X.xe s4) X.xe { s' with heap := g3 } := by
          rw [hf]
          refine HandSPX.setFlight_upZ fl3 fun g4 hh4 up4 => wpAny_throw (tk _ _ ⟨a, B, sI, pins, τ, K1, cls, d, rfl, J, nb, (up.trans up3).trans up4, .inr (.inr ?_), na, os, ag, w⟩)
          rw [hs]; exact hh4
        first
          | exact wpAny_bind (wpAny_pure (wpAny_bind up5))
          | exact wpAny_bind up5
      | @named x c ts b0 su p p2 hd2 l2 hc hsu hi hl r ih =>
        intro w
        obtain ⟨b, hb1, hyes, hno⟩ := w
        refine wpAny_handleBy_cons (codeAny_handlers_test ?_) (by intro q; cases q)
        refine nam hc ((PySem.W.exm_one (M := model X.prog X.w) J3.kIn LT hb1).here ?_)
        cases b with
        | false => exact ih (hno rfl)
        | true =>
          refine codeAny_handlers_suite_as (HandSPX.lands_againZ fl3 fun g4 fl4 up4 => ?_)
          have J4 : Inv X pins τ K1 { s' with heap := g4 } := J.landed nb fl4.1 ((up.trans up3).trans up4) os ag
          obtain ⟨o4, v4, e4, z4, d4⟩ := fl4.there
          have S4 := J4.suite e4 d4 na nL nF
          refine store_ok (X := X.suite a ((a, o4) :: (X.pn ++ pins))) (v := .ref a) S4 hN hi (.inl hl) rfl (fun s5 S5 => ?_) (.inr hl)
          refine wpAny_mono ((hsu a o4 cls d (X.pn ++ pins) z4 ⟨_, d4⟩).run [] s5 _ K1 _ S5 ((hyes rfl a na).1 rfl)) (fun f s6 hsp => ?_) (fun _ _ z => z.elim)
          have last : ∀ {τ6 : L2.St} {K6 : Hp} {Q : Shared → Prop}, Inv (X.suite a ((a, o4) :: (X.pn ++ pins))) [] τ6 K6 s6 → (∀ s7, Inv X pins (τ6.set i none) K6 s7 → Q s7) →
              wpAny (model X.prog X.w) X.A (do bindName X.env n .none; unbindBehindTheSuite X.env n p2) (fun _ s7 => Q s7) X.xe s6 := fun {τ6 K6 Q} S6 hq => gone_ok (S6.unsuite ok) hN hi hl hq
          cases f with
          | next => obtain ⟨τ6, K6, S6, q6⟩ := hsp; exact last S6 fun s7 J7 => ⟨_, _, J7, q6⟩
          | brk => obtain ⟨τ6, K6, S6, q6⟩ := hsp; exact last S6 fun s7 J7 => ⟨_, _, J7, q6⟩
          | cont => obtain ⟨τ6, K6, S6, q6⟩ := hsp; exact last S6 fun s7 J7 => ⟨_, _, J7, q6⟩
          | ret u => obtain ⟨v6, τ6, K6, S6, r6, q6⟩ := hsp; exact last S6 fun s7 J7 => ⟨_, _, _, J7, r6, q6⟩
      | @bare x c ts b0 su p p2 hd2 l2 hc hsu r ih =>
        intro w
        obtain ⟨b, hb1, hyes, hno⟩ := w
        refine wpAny_handleBy_cons (codeAny_handlers_test ?_) (by intro q; cases q)
        refine nam hc ((PySem.W.exm_one (M := model X.prog X.w) J3.kIn LT hb1).here ?_)
        cases b with
        | false => exact ih (hno rfl)
        | true =>
          refine codeAny_handlers_suite (HandSPX.lands_againZ fl3 fun g4 fl4 up4 => ?_)
          have J4 : Inv X pins τ K1 { s' with heap := g4 } := J.landed nb fl4.1 ((up.trans up3).trans up4) os ag
          obtain ⟨o4, v4, e4, z4, d4⟩ := fl4.there
          have S4 := J4.suite e4 d4 na nL nF
          refine wpAny_mono ((hsu a o4 cls d (X.pn ++ pins) z4 ⟨_, d4⟩).run [] _ _ K1 _ S4 ((hyes rfl a na).2 rfl)) (fun f s6 hsp => ?_) (fun _ _ z => z.elim)
          cases f with
          | next => obtain ⟨τ6, K6, S6, q6⟩ := hsp; exact ⟨_, _, S6.unsuite ok, q6⟩
          | brk => obtain ⟨τ6, K6, S6, q6⟩ := hsp; exact ⟨_, _, S6.unsuite ok, q6⟩
          | cont => obtain ⟨τ6, K6, S6, q6⟩ := hsp; exact ⟨_, _, S6.unsuite ok, q6⟩
          | ret u => obtain ⟨v6, τ6, K6, S6, r6, q6⟩ := hsp; exact ⟨_, _, _, S6.unsuite ok, r6, q6⟩
    exact go hh w
  refine wpAny_mono run (fun f s1 hsp => ?_) (fun e s1 he => he)
  cases f with
  | next => obtain ⟨τ, K1, J', q⟩ := hsp; exact wpAny_execs_nil ⟨τ, K1, J'.ofTry ok, q⟩
  | brk => obtain ⟨τ, K1, J', q⟩ := hsp; exact ⟨τ, K1, J'.ofTry ok, q⟩
  | cont => obtain ⟨τ, K1, J', q⟩ := hsp; exact ⟨τ, K1, J'.ofTry ok, q⟩
  | ret u => obtain ⟨v, τ, K1, J', r, q⟩ := hsp; exact ⟨v, τ, K1, J'.ofTry ok, r, q⟩
end
end Mi
end

section
set_option maxRecDepth 100000
set_option maxHeartbeats 2000000
set_option autoImplicit false
namespace Mi
open PySem PySem.Spec PyProof.Rows L2

/-! ### the classes of errors, by number -/
def xNames : List Str := ["MindError", "NoModel", "NoWorld", "NoMind", "NoSaying", "NoDeed", "NoEvent", "NoFact", "NoMinds", "NoLot", "NoCount", "NoText", "Unlike", "Common", "CantBe", "TooMany", "TooLong", "Nothing", "", "", "Turner", "Parter", "Room"]
def xName (j : Nat) : Str := xNames.getD j ""
def isSub (a c : Nat) : Bool := decide (a = c) || decide (c = 0)
/-- which defs make lambdas -/
def makers : List Str := ["is_good", "plan", "broken"]
def nTab (K : PySem.W.Frag) : Nat := if (PySem.W.nsIn K mainGlobals "broken").join.isSome then 3 else if (PySem.W.nsIn K mainGlobals "is_good").join.isSome then 1 else 0
def mkr (j : Nat) : Str := makers.getD (lamT j) ""
def fnNames : List Str := ["is_knowing", "is_sound", "knows_itself"]
def fnName (i : Nat) : Str := fnNames.getD i ""
def clX (K : PySem.W.Frag) (j : Nat) : Addr := if j = 99 then nTab K else if j < 110 then (He.cT K (makers.getD (j - 100) "", none)).2 else if j < 120 then He.ga K (mkr (j - 110)) else if j < 200 then (He.cT K (makers.getD (j - 120) "", none)).1 else He.ga K (fnName (j - 200))
def clA (K : PySem.W.Frag) (j : Nat) : Addr := if 99 ≤ j then clX K j else He.ga K (xName j)
theorem clA_lt {K : PySem.W.Frag} {j : Nat} (h : j < 99) : clA K j = He.ga K (xName j) := if_neg (by omega)
structure XCl (K : PySem.W.Frag) (cl : Nat → Addr) (xs : List Nat) (j : Nat) : Prop where
  kp : PySem.W.keepIn K (.ref (cl j)) = true
  be : PySem.W.subIn K (.ref (cl j)) (.type "BaseException") = some true
  ty : PySem.W.typeIn K (.ref (cl j)) = some (.type "type")
  ga : PySem.W.findIn K (.ref (cl j)) "__getattribute__" = some (some (.builtin "BaseException.__getattribute__"))
  gg : PySem.W.findIn K (.ref (cl j)) "__getattr__" = some none
  hd : PySem.W.hasDictIn K (cl j) = true
  ca : PySem.W.findIn K (.ref (cl j)) "__class__" = some (some (.builtin "object.__class__"))
  mo : PySem.W.mroIn K (cl j) (.type "object") = some true
  kv : PySem.W.kitOne K (.ref (cl j)) (.type "ValueError") = some true
  ex : ∀ c ∈ xs, PySem.W.exmOne K (.ref (cl j)) (.ref (cl c)) = some (isSub j c)
  ki : ∀ c ∈ xs, PySem.W.kitOne K (.ref (cl j)) (.ref (cl c)) = some (isSub j c)
def xclB (K : PySem.W.Frag) (cl : Nat → Addr) (xs : List Nat) (j : Nat) : Bool :=
  PySem.W.keepIn K (.ref (cl j)) && decide (PySem.W.subIn K (.ref (cl j)) (.type "BaseException") = some true) && decide (PySem.W.typeIn K (.ref (cl j)) = some (.type "type")) && decide (PySem.W.findIn K (.ref (cl j)) "__getattribute__" = some (some (.builtin "BaseException.__getattribute__"))) &&
  decide (PySem.W.findIn K (.ref (cl j)) "__getattr__" = some none) && PySem.W.hasDictIn K (cl j) && decide (PySem.W.findIn K (.ref (cl j)) "__class__" = some (some (.builtin "object.__class__"))) && decide (PySem.W.mroIn K (cl j) (.type "object") = some true) &&
  decide (PySem.W.kitOne K (.ref (cl j)) (.type "ValueError") = some true) && xs.all (fun c => decide (PySem.W.exmOne K (.ref (cl j)) (.ref (cl c)) = some (isSub j c))) && xs.all (fun c => decide (PySem.W.kitOne K (.ref (cl j)) (.ref (cl c)) = some (isSub j c)))
theorem xclB_ok {K : PySem.W.Frag} {cl : Nat → Addr} {xs : List Nat} {j : Nat} (h : xclB K cl xs j = true) : XCl K cl xs j := by
  unfold xclB at h
  simp only [Bool.and_eq_true, decide_eq_true_eq, List.all_eq_true] at h
  obtain ⟨⟨⟨⟨⟨⟨⟨⟨⟨⟨h1, h2⟩, h3⟩, h4⟩, h5⟩, h6⟩, h7⟩, h8⟩, h9⟩, h10⟩, h11⟩ := h
  exact ⟨h1, h2, h3, h4, h5, h6, h7, h8, h9, h10, h11⟩
/-- a class with an own __init__ -/
def oexB (K : PySem.W.Frag) (C : Addr) : Bool := (match K.lookup C with
  | some ⟨.type "type", _, .cls cd, sl⟩ => (match cd.mro, sl.toList with
    | .ref C' :: bm, [_, _, _, _, some (.builtin n), _] => C' == C && n == "ValueError.__new__" && !cd.hasDel && cd.hasDict && PySem.HandSPX.refsVE bm
    | _, _ => false)
  | _ => false) && decide (PySem.W.findIn K (.ref C) "__setattr__" = some (some (.builtin "object.__setattr__"))) && decide (PySem.W.subIn K (.ref C) (.type "BaseException") = some true) && decide (PySem.W.typeIn K (.ref C) = some (.type "type")) && PySem.W.keepIn K (.ref C)
theorem oexB_ok {K : PySem.W.Frag} {C : Addr} (h : oexB K C = true) : OexC K C := by
  unfold oexB at h
  simp only [Bool.and_eq_true, decide_eq_true_eq] at h
  obtain ⟨⟨⟨⟨q, h2⟩, h3⟩, h4⟩, h5⟩ := h
  refine ⟨?_, h2, h3, h4, h5⟩
  split at q
  · rename_i dd cd sl ho
    split at q
    · rename_i C' bm k0 k1 k2 k3 n k5 hm hs
      simp only [Bool.and_eq_true, beq_iff_eq, Bool.not_eq_true'] at q
      obtain ⟨⟨⟨⟨rfl, rfl⟩, hdel⟩, hdi⟩, ht⟩ := q
      obtain ⟨nm, bs, mro, ns, qn, hd, sn, sub, ab, col, del⟩ := cd
      dsimp only at hm hdel hdi
      subst hm hdel hdi
      have hsl : sl = #[k0, k1, k2, k3, some (.builtin "ValueError.__new__"), k5] := by
        obtain ⟨l⟩ := sl
        simp only at hs
        rw [hs]
      subst hsl
      exact ⟨_, _, _, _, bm, _, _, _, _, _, _, _, _, _, _, ho, ht⟩
    · cases q
  · cases q
abbrev veT : List Value := [.type "ValueError", .type "Exception", .type "BaseException", .type "object"]
/-- all that is asked of the classes -/
structure XT (K : PySem.W.Frag) (mg : Str → Option Value) (cl : Nat → Addr) (xs : List Nat) : Prop where
  g : ∀ j ∈ xs, mg (xName j) = some (.ref (cl j))
  c : ∀ j ∈ xs, XCl K cl xs j
  n : ∀ j ∈ xs, j ≠ 4 → j ≠ 14 → PySem.W.excIn K (cl j) veT "ValueError.__new__" = true
  o : ∀ j ∈ xs, j = 4 ∨ j = 14 → OexC K (cl j)
  f : ∀ j ∈ xs, j = 4 ∨ j = 14 → PySem.W.findIn K (.ref (cl j)) (xField j) = some none
  sg : PySem.W.specialIn K (.builtin "object.__class__") "__get__" = some (some (.builtin "getset_descriptor.__get__"))
  st : PySem.W.takesIn K (.builtin "object.__class__") = some true
def xtB (K : PySem.W.Frag) (xs : List Nat) : Bool :=
  xs.all (fun j => decide (j < 99) && (He.Fa.glo (xName j)).ok K) && xs.all (fun j => xclB K (clA K) xs j) && xs.all (fun j => if j == 4 || j == 14 then (oexB K (clA K j) && decide (PySem.W.findIn K (.ref (clA K j)) (xField j) = some none)) else PySem.W.excIn K (clA K j) veT "ValueError.__new__") &&
  decide (PySem.W.specialIn K (.builtin "object.__class__") "__get__" = some (some (.builtin "getset_descriptor.__get__"))) && decide (PySem.W.takesIn K (.builtin "object.__class__") = some true)
theorem xtB_ok {K : PySem.W.Frag} {h : Heap} {mg : Str → Option Value} {xs : List Nat} (X : K.In h) (G : h.Ns mainGlobals mg) (e : xtB K xs = true) : XT K mg (clA K) xs := by
  unfold xtB at e
  simp only [Bool.and_eq_true, decide_eq_true_eq, List.all_eq_true] at e
  obtain ⟨⟨⟨⟨h1, h2⟩, h3⟩, h8⟩, h9⟩ := e
  have two : ∀ j ∈ xs, j = 4 ∨ j = 14 → oexB K (clA K j) = true ∧ PySem.W.findIn K (.ref (clA K j)) (xField j) = some none := fun j hj q => by
    have z := h3 j hj
    rw [if_pos (by rcases q with rfl | rfl <;> rfl)] at z
    simpa using z
  refine ⟨fun j hj => by rw [clA_lt (h1 j hj).1]; exact He.glo_ok X G (h1 j hj).2, fun j hj => xclB_ok (h2 j hj), fun j hj n1 n2 => ?_, fun j hj q => oexB_ok (two j hj q).1, fun j hj q => (two j hj q).2, h8, h9⟩
  have z := h3 j hj
  rw [if_neg (by simp [n1, n2])] at z
  exact z

/-! ### raise C("..") -/
section
variable {cl : Nat → Addr} {X : Cx} {W : WX} {pos p p2 p3 : Pos} {x m : Str} {jj : Nat}
def sRaise0 (j : Nat) : ES := fun env st => .ok (.ex ⟨j, none⟩ env) st
theorem ss_raise0 {xs : List Nat} (T : XT X.K X.mg cl xs) (j : Nat) (hj : j ∈ xs) (n4 : j ≠ 4) (n14 : j ≠ 14) (hx : xName j = x) (hc : X.calm = true) (tk : L2N.Takes X W) (hg : Gl X x) (hdb : (x == ("__debug__" : Str)) = false := by decide) :
    SS cl X W (.Raise (some (.Call (.Name x p) [.Constant (.str m) jj p2] [] p3)) none pos) (sRaise0 j) :=
  (L2N.ps_raise hc tk (L2N.pmk_own PySem.F.excBase_ValueError (T.n j hj n4 n14) (hx ▸ T.g j hj) (T.c j hj).kp (raises_own (T.c j hj).be (T.c j hj).ty) hg hdb)).impM fun D σ H h => by
    obtain ⟨G, m, env, st, rl, en, p⟩ := h
    exact p (.ref (cl j)) none σ H G m (Ext.refl _ _ _) rl en ⟨rfl, rfl⟩
end
end Mi
end

section
set_option maxRecDepth 100000
set_option maxHeartbeats 2000000
set_option autoImplicit false
namespace Mi
open PySem PySem.Spec PyProof.Rows L2

/-! ### raise C(e), C with an own __init__ -/
theorem pmkN {X : Cx} {CX : CXT} {x : Str} {e : Expr} {ta : TA} {p pos : Pos} {C fI : Addr} {k : Nat} {fd : FuncData} {ps : List Str} {sp : Sp} (T : OexC X.K C) (iC : PySem.W.findIn X.K (.ref C) "__init__" = some (some (.ref fI))) (tI : PySem.W.typeIn X.K (.ref fI) = some (.type "function"))
    (F1 : FnOk X.prog X.w X.K X.mg X.base CX k fI fd ps sp) (hr : Room (k + 1) X.A) (hb : Binds X.K fd ps []) (hx : Passes CX X (fun _ _ _ => False)) (hg : Gl X x) (hm : X.mg x = some (.ref C)) (ha : PA X [e] ta)
    (hdb : (x == ("__debug__" : Str)) = false := by decide) (he : starEach [e] X.env = (false, eval e X.env) :: starEach [] X.env := by rfl) (hpl : (backTo pos (starEach [] X.env)).any (·.1) = false := by rfl) :
    L2N.PMk X (.Call (.Name x p) [e] [] pos) (tMkO C sp [] ta) := by
  intro pins s σ H Q I h
  obtain ⟨nm, q, N, bs, bm, sn, sub, ab, col, dd, k0, k1, k2, k3, k5, hC, hbm⟩ := T.cls
  apply wpAny_Call_Name_kw
  apply ld_glob I hg hm ?_ hdb
  refine PySem.W.callWith_K (h₀ := X.base) I.ok.mod.kin T.kC ?_ he hpl
  refine thn (ha.run pos pins s σ H _ I h) fun us s1 q1 => ?_
  obtain ⟨vs, H1, I1, r1, hz, q1⟩ := q1
  refine ⟨I1.kIn, ?_⟩
  show wpAny _ _ (call (.ref C) us) _ _ _
  obtain ⟨hp, g, dr, tk, os⟩ := s1
  generalize hA : hp.objs.size + 1 = A0
  have lo : hp.objs.size ≤ A0 := by omega
  have new : H1 A0 = none := I1.hok.fresh lo
  have w1 := q1 A0 new
  rw [List.append_nil] at w1
  generalize hG : (hp.push (PySem.W.kdv_tup us)).push (PySem.HandSPX.excO C hp.objs.size) = G2
  have kk : ∀ b o, hp.get? b = some o → G2.get? b = some o := fun b o e => by rw [← hG]; exact Heap.get?_push_of_some _ (Heap.get?_push_of_some _ e)
  have at2 : G2.get? A0 = some (PySem.HandSPX.excO C hp.objs.size) := by rw [← hG, ← hA]; heap_get
  have I2 : Inv X pins σ (upd H1 A0 (exo A0 C none)) ⟨G2, g, dr, tk, os⟩ := I1.laid (t' := tk) (a := A0) (o := exo A0 C none) (h' := G2) kk lo (exo_ok at2)
  have r2 : Vals (V.ref A0 :: vs) (Value.ref A0 :: us) := .cons rfl r1
  have len : (Value.ref A0 :: us ++ []).length = ps.length := by
    rw [List.append_nil, ← r2.length]
    exact F1.len _ _ _ _ w1
  have small : us.length ≤ sizeLine := by
    rw [← Paired.length r1, sizeLine_eq]; omega
  have b2 := hb _ (Value.ref A0 :: us) I2.kIn len
  rw [List.append_nil] at b2
  have run := F1.run (X.A.under (.builtin "type.__call__" ⟨.ref C :: us, []⟩)) X.stack _ _ ⟨Value.ref A0 :: us, []⟩ (Value.ref A0 :: us) _ _ (fun _ _ _ => False) (hr.make C us []) (I2.env0.make C us []) b2 r2 w1
  refine wpAny_call ?_
  refine PySem.HandSPX.call_own F.excBase_ValueError (fun Y => PySem.HandSPX.refsVE_contains Y bm hbm) (I1.kIn _ _ hC) (PySem.W.looks_findIn I1.kIn iC) (fun self => PySem.W.bind_fn I1.kIn self tI) small ?_
  rw [hG, hA]
  refine codeAny_mono run fun r s' hq' => ?_
  cases r with
  | error er => exact hx pins σ _ _ er s' I2 hq'
  | ok fl =>
    cases fl with
    | next => exact hq'.elim
    | brk => exact hq'.elim
    | cont => exact hq'.elim
    | ret u =>
      obtain ⟨v, H2, os2, bare2, un2, hok2, rv, ev, d, fs, ea, ed, hd1, q2⟩ := hq'
      subst ev
      obtain ⟨h2, g2, d2, t2, os'⟩ := s'
      obtain ⟨t0, G, J, kG, ge, hoe, na⟩ := mk_end0 (d2 := d2) (t2 := t2) I1 lo kk un2 hok2 os2 bare2 ea ed hd1
      refine ⟨rv, A0, _, _, ⟨G, g2, d2, t2, os'⟩, _, .ref C, some d, rfl, J, kG, ge, hoe, ⟨rfl, rfl, fun vs hv => ?_⟩, rfl, rfl, na, rfl, bare2, raises_own T.exC T.tyC, q2⟩
      cases hv
      rfl
/-- what __init__ does: self.f = v -/
def spI (K : PySem.W.Frag) (f : Str) : Sp := fun vs H Q _ => ∃ (a C : Addr) (y : V), vs = [.ref a, y] ∧ OexC K C ∧ PySem.W.findIn K (.ref C) f = some none ∧ H a = some (exo a C none) ∧ ∀ dx, H dx = none → dx ≠ a → Q .non (upd (upd H dx (exd dx [(f, y)])) a (exo a C (some dx)))
section
variable {cl : Nat → Addr} {X : Cx} {W : WX} {pos p p2 p3 : Pos} {x f : Str} {e : Expr} {ee : EE}
def sRaise1 (j : Nat) (ee : EE) : ES := fun env st => (ee env st).bindS env fun v s => match v with
  | .d x => .ok (.ex ⟨j, some x⟩ env) s
  | _ => .bad
theorem ss_raise1 (j : Nat) (hxf : xField j = f) (O : OexC X.K (cl j)) (hf : PySem.W.findIn X.K (.ref (cl j)) f = some none) (hm : X.mg x = some (.ref (cl j))) {fI : Addr} {k : Nat} {fd : FuncData} {ps : List Str} (iC : PySem.W.findIn X.K (.ref (cl j)) "__init__" = some (some (.ref fI))) (tI : PySem.W.typeIn X.K (.ref fI) = some (.type "function"))
    (F1 : FnOk X.prog X.w X.K X.mg X.base (L2N.CX X.prog X.w) k fI fd ps (spI X.K f)) (hr : Room (k + 1) X.A) (hb : Binds X.K fd ps []) (hc : X.calm = true) (tk : L2N.Takes X W) (hg : Gl X x) (he : SE cl X W e ee)
    (hdb : (x == ("__debug__" : Str)) = false := by decide) (hst : starEach [e] X.env = (false, eval e X.env) :: starEach [] X.env := by rfl) (hpl : (backTo p3 (starEach [] X.env)).any (·.1) = false := by rfl) :
    SS cl X W (.Raise (some (.Call (.Name x p) [e] [] p3)) none pos) (sRaise1 j ee) := by
  have hx : Passes (L2N.CX X.prog X.w) X (fun _ _ _ => False) := fun pins σ H s e s' I c => L2N.passes_call tk (E := fun _ _ _ => False) (fun _ _ _ _ z => z.elim) pins σ H s e s' I c
  refine (L2N.ps_raise hc tk (pmkN O iC tI F1 hr hb hx hg hm (pa_cons he pa_nil hst) hdb hst hpl)).impM fun D σ H h => ?_
  obtain ⟨G, m, env, st, rl, en, p⟩ := h
  refine ⟨G, m, env, st, rl, en, Post.bindS en p fun v s1 y H1 G1 m1 _ e1 rl1 r1 p1 => ?_⟩
  split at p1
  · rename_i d
    cases r1 with
    | d r1 =>
      refine ⟨by show 1 ≤ 1000; decide, fun a ha => ⟨a, cl j, y, rfl, O, hf, upd_same, fun dx hdx hne => ⟨rfl, dx, [(f, y)], upd_same, ?_, ?_, ?_⟩⟩⟩
      · rw [upd_ne hne, upd_same]
      · rw [upd_ne hne] at hdx; exact hdx
      · have hd1 : H1 dx = none := by rw [upd_ne hne] at hdx; exact hdx
        have eH : upd (del (upd (upd (upd H1 a (exo a (cl j) none)) dx (exd dx [(f, y)])) a (exo a (cl j) (some dx))) a) dx (.xd [(f, y)]) = upd H1 dx (.xd [(f, y)]) := by
          funext b
          by_cases q : b = dx
          · subst q; rw [upd_same, upd_same]
          · rw [upd_ne q, upd_ne q]
            by_cases q2 : b = a
            · subst q2; rw [del_same]; exact ha.symm
            · rw [del_ne q2, upd_ne q2, upd_ne q, upd_ne q2]
        rw [eH]
        obtain ⟨rl2, ex2⟩ := rl1.laid hd1 (.xd [(f, y)])
        exact p1 (.ref (cl j)) (some dx) σ _ _ m1 ex2 rl2 ((en.ext e1).ext ex2) ⟨rfl, dx, y, rfl, by rw [upd_same, hxf], r1.sub ex2.sub⟩
  · exact p1.elim
end
/-- the __init__ itself -/
theorem fn_init {P : Program} {w : World} {K : PySem.W.Frag} {mg : Str → Option Value} {base : Heap} {x qual f : Str} {params : Arguments} {scope : Scope} {dvs : List V} {kws : List (Str × V)} {fa : Addr} {fd : FuncData} {p1 p2 p3 p4 : Pos} {k : Nat}
    (F : FunD K x qual params [.Assign [.Attribute (.Name "self" p1) f p2] (.Name f p3) p4] scope dvs kws fa fd) (S : FnScope [("self" : Str), f] [("self" : Str), f] scope) (hv : (f == ("__debug__" : Str)) = false) (hc : (f == ("__classdict__" : Str)) = false) (l1 : scope.names.lookup ("self" : Str) = some .local) (l2 : scope.names.lookup f = some .local)
    (hsw : ∀ (e : Env), swapsWith (.Name f p3) (some (.Attribute (.Name "self" p1) f p2)) p4.line e = pure false) : FnOk P w K mg base (L2N.CX P w) (k + 1) fa fd ["self", f] (spI K f) := by
  refine F.ok S (fun vs H Q E h => ?_) (fun cdv A outer s H vs Q E hr hh => ?_)
  · obtain ⟨a, C, y, rfl, _⟩ := h; rfl
  · obtain ⟨a, C, y, rfl, O, hf, ha, q⟩ := hh
    refine ⟨_, pss_one (ps_ost (pe_var (i := 0) (x := "self") rfl (.inl l1) (by decide) (by decide)) (pe_var (i := 1) (x := f) rfl (.inl l2) hv hc) (hsw _)), ?_⟩
    refine ⟨y, rfl, .ref a, rfl, a, C, rfl, O, hf, .inl ⟨ha, fun dx h1 h2 => ?_⟩⟩
    exact q dx h1 h2
end Mi
end

section
set_option maxRecDepth 100000
set_option maxHeartbeats 2000000
set_option autoImplicit false
namespace Mi
open PySem PySem.Spec PyProof.Rows L2

/-! ### xs.count(v) -/
section
variable {cl : Nat → Addr} {X : Cx} {W : WX} {pos apos p : Pos} {o a : Expr} {ea eb : EE}
def eCount (eo ea : EE) : EE := fun env st => (eo env st).bind fun v s1 => match lsOf v s1 with
  | some _ => (ea env s1).bind fun u s2 => (match lsOf v s2, datOf u s2 with
    | some xs, some d => if fitsIn xs d = true then .ok (.d (.int ((xs.countP fun y => PyData.eqv y d : Nat) : Int))) s2 else .bad
    | _, _ => .bad)
  | none => .bad
def rCnt (X : Cx) (cl : Nat → Addr) : V → List V → Hp → VK → Prop := fun x vs H Q => ∃ G m st av bv y xs d, vs = [y] ∧ Rl (rc X cl) G m H st ∧ RepV (rc X cl) G m x av ∧ RepV (rc X cl) G m y bv ∧ lsOf av st = some xs ∧ datOf bv st = some d ∧ fitsIn xs d = true ∧ Q (.int ((xs.countP fun y => PyData.eqv y d : Nat) : Int)) H
theorem mt_cnt (hu : X.A.units + 200 < cLine) : MtM X "list.count" (rCnt X cl) := by
  intro pins s σ H x vs v us Q I rx rv h
  obtain ⟨G, m, st, av, bv, y, xs, d, rfl, rl, ra, rb, e1, e2, hf, hq⟩ := h
  obtain ⟨u, rfl, ru⟩ := rv.one
  obtain ⟨f1, f2, f3⟩ := fitsIn_is hf
  obtain ⟨bs, r1⟩ := Dp.reads I d y u (dat_of rl rb e2 f2) ru
  obtain ⟨l, ws, rfl, k, rw'⟩ := ls_of rl ra e1
  obtain ⟨as, r2⟩ := Dp.reads I (.list xs) _ v (.lst (SqL.of k) (RepAll.dp rl.sub f1 rw')) rx
  cases rx
  cases r2 with
  | @list _ ob vals n _ as h1 h2 h3 h4 => exact SeqAt.count_list_data ⟨ob, h1, h2, n, h3⟩ h4 r1 f1 f2 (by omega) ⟨.int _, H, I.tok _, ⟨_, rfl⟩, hq⟩
theorem se_count (hu : X.A.units + 200 < cLine) (ho : SE cl X W o ea) (ha : SE cl X W a eb) (hbase : attributeBase o "count" X.env (eval o X.env) = eval o X.env := by rfl)
    (hfew : ((backTo pos (starEach [a] X.env)).all (fun x => !x.1) && (backToKw pos (keywordEach [] X.env)).all (fun x => x.1.isSome) && decide ([a].length + ([] : List Keyword).length + (if ([] : List Keyword).isEmpty then 0 else 1) < 30)) = true := by rfl)
    (hline : (apos.endLine == pos.line) = true := by rfl) (hs : starEach [a] X.env = (false, eval a X.env) :: starEach [] X.env := by rfl) (hplain : (backTo pos (starEach [] X.env)).any (·.1) = false := by rfl) :
    SE cl X W (.Call (.Attribute o "count" apos) [a] [] pos) (eCount ea eb) :=
  (pe_bm PySem.F.plainAttrs_list PySem.F.slot_list_count PySem.F.type_list_count (mt_cnt (cl := cl) hu) ho (pa_cons ha pa_nil hs) hbase hfew hline hs hplain).impM fun σ H Q h => by
  obtain ⟨G, m, env, st, rl, en, p⟩ := h
  refine ⟨G, m, env, st, rl, en, Post.bindE p fun v s1 x H1 G1 m1 _ e1 rl1 r1 p1 => ?_⟩
  split at p1
  · rename_i ys ey
    obtain ⟨b', us, rfl, hb, rb⟩ := ls_of rl1 r1 ey
    refine ⟨.inl ⟨rfl, us, SqL.of hb⟩, G1, m1, env, s1, rl1, en.ext e1, Post.bindE p1 fun u s2 y H2 G2 m2 _ e2 rl2 r2 p2 => ?_⟩
    split at p2
    · rename_i xs d ex ed
      split at p2
      · rename_i hc
        exact ⟨G2, m2, s2, v, u, y, xs, d, rfl, rl2, r1.ext e2, r2, ex, ed, hc, p2 _ H2 G2 m2 (Ext.refl _ _ _) rl2 (.d (.int _))⟩
      · exact p2.elim
    · exact p2.elim
  · exact p1.elim
end

/-! ### a def called within an except suite, with the error that is held -/
structure FnX (P : Program) (w : World) (K : PySem.W.Frag) (mg : Str → Option Value) (base : Heap) (CX : CXT) (k : Nat) (f : Addr) (fd : FuncData) (ps : List Str) (sp : Sp) (p : Addr × Obj) : Prop where
  len : ∀ vs H Q E, sp vs H Q E → vs.length = ps.length
  run : ∀ (A : Around) (outer : List Env) (s : Shared) (H : Hp) (args : Args) (us : List Value) (vs : List V) (Q : VK) (E : XK), L2H.RoomH k A → L2H.Hot1 A p → L2H.PinOk outer H s p → Env0 P w K mg base A outer s H → BindsTo s fd args (ps.zip us) → Vals vs us → sp vs H Q E →
    codeAny (model P w) A (.call (.ref f) args) (CR CX outer P w H s Q E) s
theorem fnX_of {CX : CXT} {P : Program} {w : World} {K : PySem.W.Frag} {mg : Str → Option Value} {base : Heap} {k : Nat} {f : Addr} {name qual : Str} {params : Arguments} {body : List Stmt} {scope : Scope} {dV kV doc pm cdv ct oc : Value} {an od : Option Addr}
    {osl : Array (Option Value)} {N ps : List Str} {sp : Sp} {p : Addr × Obj} (lk : K.lookup f = some ⟨oc, od, .func (PySem.W.fnOf name qual params body scope dV kV doc pm an cdv ct), osl⟩) (hcd : PySem.W.codeIn K cdv qual = true) (S : FnScope N ps scope)
    (len : ∀ vs H Q E, sp vs H Q E → vs.length = ps.length)
    (hbody : ∀ (A : Around) (outer : List Env) (s : Shared) (H : Hp) (vs : List V) (Q : VK) (E : XK), L2H.Hot1 A p → L2H.RoomH k (A.deeper (envOfC qual scope s.heap.objs.size f cdv)) → sp vs H Q E →
      ∃ t, PSs (L2H.cxH CX P w K mg base N qual scope f cdv A outer s H E p) body t ∧ t { nx := fun _ H' => Q .non H', rt := Q } (L2.start N vs) H) :
    FnX P w K mg base CX (k + 1) f (PySem.W.fnOf name qual params body scope dV kV doc pm an cdv ct) ps sp p := by
  constructor
  · exact len
  · intro A outer s H args us vs Q E hr hot hpin e0 hb r hsp
    have hl := len _ _ _ _ hsp
    have up : ∀ b o, base.get? b = some o → s.heap.get? b = some o := fun b o e => (e0.bs b o e).1
    have KX : K.In s.heap := e0.mod.kin.keeps up
    have lim : s.heap.NoLimit := e0.mod.nolimit.keeps up
    have kinds : ∀ y ∈ ps.zip us, scope.names.lookup y.1 = some .local ∨ (scope.names.lookup y.1 = some .cell ∧ ((cellsFrom (s.heap.objs.size + 1) scope.names []).lookup y.1).isSome = true) := fun y hy => by
      obtain ⟨n, v⟩ := y
      rcases S.par n (List.of_mem_zip hy).1 with q | q
      · exact .inl q
      · exact .inr ⟨q, PySem.W.cellsFrom_some _ _ _ (.inl q)⟩
    refine codeAny_call_function hr.depth (KX _ _ lk) rfl S.co S.gen rfl (PySem.W.codeRec_of KX hcd) (hb _ _ _ _ ?_)
    refine wpAny_newFunctionEnv_cells S.kind kinds fun env he s1 x => ?_
    subst he
    refine ⟨lim.keeps x.toInCall.keep, codeAny_func ?_⟩
    obtain ⟨t, ht, hq⟩ := hbody A outer s H vs Q E hot (hr.deeper _) hsp
    have I : Inv (L2H.cxH CX P w K mg base N qual scope f cdv A outer s H E p) [] (L2.start N vs) H s1 := L2H.inv_startH S hpin e0 hl r x
    refine wpAny_mono (ht.run [] s1 (L2.start N vs) H _ I hq) (fun fl s' hs => ?_) fun e s' hs => hs
    cases fl with
    | ret u => obtain ⟨v, σ', H', J, rv, q⟩ := hs; exact ⟨v, H', J.os, J.bare, J.base, J.hok, rv, q⟩
    | next => obtain ⟨σ', H', J, q⟩ := hs; exact ⟨V.non, H', J.os, J.bare, J.base, J.hok, rfl, q⟩
    | brk => obtain ⟨_, _, _, q⟩ := hs; exact q.elim
    | cont => obtain ⟨_, _, _, q⟩ := hs; exact q.elim
section
variable {X : Cx} {CX : CXT} {k : Nat} {f : Addr} {fd : FuncData} {ps : List Str} {sp : Sp} {E : L2.St → XK} {x : Str} {q pos : Pos} {e : Expr} {es : List Expr} {t : TA} {p : Addr × Obj}
theorem pe_callX (F : FnX X.prog X.w X.K X.mg X.base CX k f fd ps sp p) (hr : L2H.RoomH k X.A) (hot : L2H.Hot1 X.A p) (hpn : p ∈ X.pn) (hg : Gl X x) (hm : X.mg x = some (.ref f)) (hk : PySem.W.keepIn X.K (.ref f) = true) (hb : Binds X.K fd ps []) (hx : ∀ σ, PassesAt CX X σ (E σ))
    (ha : PA X (e :: es) t) (hdb : (x == ("__debug__" : Str)) = false := by decide) (he : starEach (e :: es) X.env = (false, eval e X.env) :: starEach es X.env := by rfl) (hpl : (backTo pos (starEach es X.env)).any (·.1) = false := by rfl) :
    PE X (.Call (.Name x q) (e :: es) [] pos) (tCallS sp E t) := by
  constructor
  intro pins s σ H Q I h
  apply wpAny_Call_Name_kw
  apply ld_glob I hg hm ?_ hdb
  refine PySem.W.callWith_K (h₀ := X.base) I.ok.mod.kin hk ?_ he hpl
  refine thn (ha.run pos pins s σ H _ I h) fun us s1 q1 => ?_
  obtain ⟨vs, H1, I1, r, hsp⟩ := q1
  refine ⟨I1.kIn, ?_⟩
  have hl : us.length = ps.length := by rw [← r.length]; exact F.len _ _ _ _ hsp
  have b := hb s1 us I1.kIn (by rw [List.append_nil]; exact hl)
  rw [List.append_nil] at b
  have P1 := I1.pin p (List.mem_append_left _ hpn)
  have hpin : L2H.PinOk X.stack H1 s1 p := ⟨P1.1, P1.2.1, fun hm => (List.mem_cons.mp (I1.stkSub p.1 hm)).elim P1.2.2.1 P1.2.2.2.1, P1.2.2.2.2⟩
  refine wpAny_call (codeAny_mono (F.run X.A X.stack s1 H1 ⟨us, []⟩ us vs Q (E σ) hr hot hpin I1.env0 b r hsp) fun r s' hq => ?_)
  cases r with
  | error e => exact hx σ pins H1 s1 e s' I1 hq
  | ok fl =>
    cases fl with
    | ret u => exact I1.after hq
    | next => exact hq.elim
    | brk => exact hq.elim
    | cont => exact hq.elim
end

/-! ### isinstance(e, C), e an error that is held -/
section
variable {cl : Nat → Addr} {X : Cx} {W : WX} {pos p p2 : Pos} {a : Expr} {ea : EE} {A0 : Addr} {oe : Obj} {d : Option Addr} {j : Nat}
def rIsX (K : PySem.W.Frag) (D A0 : Addr) (d : Option Addr) : List V → Hp → VK → Prop := fun xs H Q => ∃ (c : V) (cv : Value) (b : Bool), xs = [.ref A0, c] ∧ (∀ u, RelV c u → u = cv) ∧ PySem.W.kitOne K (.ref D) cv = some b ∧ (∀ q, d = some q → ∃ fs, H q = some (.xd fs)) ∧ Q (.bl b) H
theorem call_isX {mg : Str → Option Value} {xs : List Nat} (T : XT X.K mg cl xs) (hj : j ∈ xs) (hp : (A0, oe) ∈ X.pn) (hz : L2N.Zn (.ref (cl j)) d oe) (hf : ∃ vs, oe.data = .fields vs) : CallR X (.builtin "isinstance") (rIsX X.K (cl j) A0 d) := by
  intro pins s σ H zs us Q I r h
  obtain ⟨c, cv, b, rfl, hcv, e, hd, q⟩ := h
  cases r with
  | cons rx rr =>
    cases rr with
    | cons rt rr =>
      cases rr
      cases rx
      have ec := hcv _ rt
      subst ec
      obtain ⟨hget, _⟩ := I.pin (A0, oe) (List.mem_append.mpr (.inl hp))
      obtain ⟨vs, hv⟩ := hf
      have no : PySem.W.notCls oe = true := by unfold PySem.W.notCls; rw [hv]
      have J : ∃ od, PySem.W.InstAt s.heap A0 oe (cl j) od := by
        cases hd0 : d with
        | none => exact ⟨none, hget, hz.1, no, by rw [hz.2.1, hd0]; trivial⟩
        | some q0 =>
          obtain ⟨fs, hq⟩ := hd q0 hd0
          obtain ⟨mA, hns, _⟩ := (show ObjOk X.prog X.w H s.heap q0 (.xd fs) from I.hok q0 _ hq)
          obtain ⟨od, ho, _⟩ := lookIn_ns hns
          exact ⟨some od, hget, hz.1, no, by rw [hz.2.1, hd0]; exact ho⟩
      obtain ⟨od, J⟩ := J
      have c := T.c j hj
      have hcl : (PySem.W.clsIn X.K (cl j)).isSome = true := by
        obtain ⟨cd, hc, _⟩ := PySem.W.any_some c.hd
        rw [hc]; rfl
      exact PySem.W.kia_one (PySem.W.kitx_exc hcl c.ga c.gg c.be c.ca T.sg T.st c.mo) I.kIn J e (fun z => nomatch z) fun tk => ⟨.bl b, H, I.kept (t' := tk) fun _ _ z => z, rfl, q⟩
def eIsX (A0 : Addr) (d : Option Addr) (b : Bool) (ea : EE) : EE := fun env st => (ea env st).bind fun v s => match v with
  | .a q e => if q = A0 ∧ e = d then .ok (.d (.bool b)) s else .bad
  | _ => .bad
theorem se_isX {xs : List Nat} (T : XT X.K X.mg cl xs) (hj : j ∈ xs) (hp : (A0, oe) ∈ X.pn) (hz : L2N.Zn (.ref (cl j)) d oe) (hf : ∃ vs, oe.data = .fields vs) {y : Str} (c : Nat) (hc : c ∈ xs) (hy : xName c = y) (ha : SE cl X W a ea) (hg : Gl X "isinstance") (hm : X.mg "isinstance" = none) (hgy : Gl X y) (hdb : (y == ("__debug__" : Str)) = false := by decide)
    (he : starEach [a, .Name y p2] X.env = (false, eval a X.env) :: starEach [.Name y p2] X.env := by rfl) (he2 : starEach [.Name y p2] X.env = (false, eval (.Name y p2) X.env) :: starEach [] X.env := by rfl) (hpl : (backTo pos (starEach [.Name y p2] X.env)).any (·.1) = false := by rfl) :
    SE cl X W (.Call (.Name "isinstance" p) [a, .Name y p2] [] pos) (eIsX A0 d (isSub j c) ea) :=
  (pe_callB (call_isX T hj hp hz hf) hg hm (by decide +kernel) (pa_cons ha (pa_cons (pe_glob (v := .ref (cl c)) hgy (hy ▸ T.g c hc) rfl hdb) pa_nil he2) he) (by decide) (by decide) he hpl).impM fun σ H Q h => by
  obtain ⟨G, m, env, st, rl, en, p⟩ := h
  refine ⟨G, m, env, st, rl, en, Post.bindE p fun v s1 x H1 G1 m1 _ e1 rl1 r1 p1 => ?_⟩
  split at p1
  · rename_i q e
    split at p1
    · rename_i h2
      obtain ⟨rfl, rfl⟩ := h2
      cases r1 with
      | a hh => exact ⟨.ref (cl c), .ref (cl c), isSub j c, rfl, fun u ru => ru, (T.c j hj).ki c hc, fun q hq => let ⟨fs, z⟩ := hh q hq; ⟨fs, rl1.sub _ _ z⟩, p1 _ H1 G1 m1 (Ext.refl _ _ _) rl1 (.d (.bl _))⟩
    · exact p1.elim
  · exact p1.elim
theorem se_isVE {xs : List Nat} (T : XT X.K X.mg cl xs) (hj : j ∈ xs) (hp : (A0, oe) ∈ X.pn) (hz : L2N.Zn (.ref (cl j)) d oe) (hf : ∃ vs, oe.data = .fields vs) (ha : SE cl X W a ea) (hg : Gl X "isinstance") (hm : X.mg "isinstance" = none) (hgy : Gl X "ValueError") (hmy : X.mg "ValueError" = none)
    (he : starEach [a, .Name "ValueError" p2] X.env = (false, eval a X.env) :: starEach [.Name "ValueError" p2] X.env := by rfl) (he2 : starEach [.Name "ValueError" p2] X.env = (false, eval (.Name "ValueError" p2) X.env) :: starEach [] X.env := by rfl) (hpl : (backTo pos (starEach [.Name "ValueError" p2] X.env)).any (·.1) = false := by rfl) :
    SE cl X W (.Call (.Name "isinstance" p) [a, .Name "ValueError" p2] [] pos) (eIsX A0 d true ea) :=
  (pe_callB (call_isX T hj hp hz hf) hg hm (by decide +kernel) (pa_cons ha (pa_cons (pe_bltn (v := .ty "ValueError") hgy hmy PyProof.Rows.Boot.«ValueError» rfl (by decide) (by decide)) pa_nil he2) he) (by decide) (by decide) he hpl).impM fun σ H Q h => by
  obtain ⟨G, m, env, st, rl, en, p⟩ := h
  refine ⟨G, m, env, st, rl, en, Post.bindE p fun v s1 x H1 G1 m1 _ e1 rl1 r1 p1 => ?_⟩
  split at p1
  · rename_i q e
    split at p1
    · rename_i h2
      obtain ⟨rfl, rfl⟩ := h2
      cases r1 with
      | a hh => exact ⟨.ty "ValueError", .type "ValueError", true, rfl, fun u ru => ru, (T.c j hj).kv, fun q hq => let ⟨fs, z⟩ := hh q hq; ⟨fs, rl1.sub _ _ z⟩, p1 _ H1 G1 m1 (Ext.refl _ _ _) rl1 (.d (.bl _))⟩
    · exact p1.elim
  · exact p1.elim
end
end Mi
end

section
set_option maxRecDepth 100000
set_option maxHeartbeats 2000000
set_option autoImplicit false
namespace Mi
open PySem PySem.Spec PyProof.Rows L2

/-! ### what a clause gives, of the error that it holds -/
abbrev HV := Exn → Sto → Option D
def tHE (C : RC) (X8 : List Nat) (o : Option Nat) (a : Addr) (cls : Value) (d : Option Addr) (f : HV) : TE := fun σ H Q => ∃ G m st e x, Rl C G m H st ∧ ExcR C G H e cls d ∧ e.cls ∈ X8 ∧ (∀ i, o = some i → σ[i]? = some (some (.ref a))) ∧ f e st = some x ∧ ∀ v H' G' m', Ext G m H G' m' H' → Rl C G' m' H' st → Rep C G' v x → Q v H'
abbrev HEx (cl : Nat → Addr) (X : Cx) (X8 : List Nat) (o : Option Nat) (E : Expr) (f : HV) : Prop := ∀ (a : Addr) (oe : Obj) (cls : Value) (d : Option Addr) (pn : List (Addr × Obj)), L2N.Zn cls d oe → (∃ vs, oe.data = .fields vs) → PE (X.suite a ((a, oe) :: pn)) E (tHE (rc X cl) X8 o a cls d f)
theorem ExcR.ext {C : RC} {G G' H H' : Hp} {e : Exn} {cls : Value} {d : Option Addr} (s : Sub G G') (h : ExcR C G H e cls d) : ExcR C G' H' e cls d := by
  obtain ⟨h1, h2⟩ := h
  refine ⟨h1, ?_⟩
  cases ea : e.arg with
  | none => rw [ea] at h2; exact h2
  | some x => rw [ea] at h2; obtain ⟨a, v, q1, q2, q3⟩ := h2; exact ⟨a, v, q1, s _ _ q2, q3.sub s⟩
section
variable {cl : Nat → Addr} {X : Cx} {X8 : List Nat} {o : Option Nat} {pos : Pos} {E : Expr} {es : List Expr}
def hC (x : D) : HV := fun _ _ => some x
/-- _law_which(e) -/
def whichD (j : Nat) : D := .tuple [.str "refused", .int (if j = 0 then -1 else (j : Int) - 1)]
def hWh : HV := fun e st => if insOk st.length st = true then some (whichD e.cls) else none
structure WhOk (X8 : List Nat) (cl : Nat → Addr) (P : Program) (w : World) (K : PySem.W.Frag) (mg : Str → Option Value) (base : Heap) (k : Nat) (x : Str) : Prop where
  ok : ∃ (fa : Addr) (fd : FuncData), mg x = some (.ref fa) ∧ PySem.W.keepIn K (.ref fa) = true ∧ Binds K fd ["e"] [] ∧ ∀ (a : Addr) (oe : Obj) (d : Option Addr) (j : Nat), j ∈ X8 → L2N.Zn (.ref (cl j)) d oe → (∃ vs, oe.data = .fields vs) →
    ∃ f : FN, (∀ st, insOk st.length st = true → f [.a a d] st = .ok (.d (whichD j)) st) ∧ FnX P w K mg base (L2N.CX P w) k fa fd ["e"] (spF ⟨K, w, cl⟩ 1 f) (a, oe)
theorem he_wh {i k : Nat} {n x : Str} {p1 p2 : Pos} (F : WhOk X8 cl X.prog X.w X.K X.mg X.base k x) (hr : Room k X.A) (hg : Gl X x) (hi : X.N[i]? = some n) (hv : Vis X.env.scope n := by first | exact Or.inl rfl | exact Or.inr (Or.inl rfl) | exact Or.inr (Or.inr rfl)) (hd : (n == ("__debug__" : Str)) = false := by decide) (hcd : (n == ("__classdict__" : Str)) = false := by decide) (hdb : (x == ("__debug__" : Str)) = false := by decide)
    (he : starEach [.Name n p1] X.env = (false, eval (.Name n p1) X.env) :: starEach [] X.env := by rfl) (hpl : (backTo pos (starEach [] X.env)).any (·.1) = false := by rfl) : HEx cl X X8 (some i) (.Call (.Name x p2) [.Name n p1] [] pos) hWh := fun a oe cls d pn z zf => by
  constructor
  intro pins s σ H Q I h
  obtain ⟨G, m, st, e, y, rl, ex, hc, hs, hf, q⟩ := h
  unfold hWh at hf
  split at hf
  · rename_i ok
    cases hf
    obtain ⟨fa, fd, hm, hk, hb, F⟩ := F.ok
    have e1 := ex.1
    subst e1
    obtain ⟨f, hfv, F⟩ := F a oe d e.cls hc z zf
    have hot : L2H.Hot1 (X.suite a ((a, oe) :: pn)).A (a, oe) := ⟨rfl, by
      obtain ⟨vs, hvs⟩ := zf
      exact ⟨vs, hvs, z.2.2 vs hvs⟩⟩
    refine (pe_callX (X := X.suite a ((a, oe) :: pn)) (E := fun _ _ _ _ => False) F (L2H.roomH_mark hr _) hot List.mem_cons_self hg hm hk hb (fun τ pins H s e s' I c => ?_) (pa_cons (pe_var (X := X.suite a ((a, oe) :: pn)) (i := i) hi hv hd hcd) pa_nil he) hdb he hpl).run pins s σ H Q I ?_
    · obtain ⟨_, _, _, _, _, _, _, _, _, _, _, _, z⟩ := c
      exact z.elim
    · refine ⟨.ref a, hs i rfl, G, m, st, [.a a d], rl, .cons (.a fun q0 hq0 => ?_) .nil, rfl, ?_⟩
      · obtain ⟨_, e2⟩ := ex
        cases e3 : e.arg with
        | none => rw [e3] at e2; rw [show d = none from e2] at hq0; cases hq0
        | some x0 =>
          rw [e3] at e2
          obtain ⟨dd, v, q1, q2, q3⟩ := e2
          rw [q1] at hq0
          cases hq0
          exact ⟨_, q2⟩
      · rw [hfv st ok]
        intro v H' G' m' x1 rl1 r1
        cases r1 with
        | d r1 => exact q v H' G' m' x1 rl1 r1
  · cases hf
end

/-! ### try: .. except C as e: return .. -/
def hPick : List (Nat × HV) → Exn → Sto → Option (Option D)
  | [], _, _ => none
  | p :: l, e, st => if isSub e.cls p.1 = true then some (p.2 e st) else hPick l e st
def sTry (X8 : List Nat) (i : Nat) (body : ES) (hs : List (Nat × HV)) : ES := fun env st => match body env st with
  | .ok (.ex e env1) s => if e.cls ∈ X8 ∧ i < env1.length then (match hPick hs e s with
    | some (some x) => .ok (.rt (.d x)) s
    | some none => .bad
    | none => .ok (.ex e env1) s) else .bad
  | r => r
inductive HdR (cl : Nat → Addr) (X : Cx) (X8 : List Nat) (i : Nat) (n : Str) : List ExceptHandler → List (Nat × HV) → Prop
  | nil : HdR cl X X8 i n [] []
  | named {y : Str} {E : Expr} {f : HV} {p p2 p3 : Pos} {hds : List ExceptHandler} {l : List (Nat × HV)} (c : Nat) (hc : c ∈ X8) (hy : xName c = y) (hg : Gl X y) (hdb : (y == ("__debug__" : Str)) = false) (he : HEx cl X X8 (some i) E f) (hi : X.N[i]? = some n) (hl : X.env.kindOf n = some .local) (r : HdR cl X X8 i n hds l) :
      HdR cl X X8 i n (.ExceptHandler (some (.Name y p)) (some n) [.Return (some E) p3] p2 :: hds) ((c, f) :: l)
  | bare {y : Str} {E : Expr} {f : HV} {p p2 p3 : Pos} {hds : List ExceptHandler} {l : List (Nat × HV)} (c : Nat) (hc : c ∈ X8) (hy : xName c = y) (hg : Gl X y) (hdb : (y == ("__debug__" : Str)) = false) (he : HEx cl X X8 none E f) (r : HdR cl X X8 i n hds l) :
      HdR cl X X8 i n (.ExceptHandler (some (.Name y p)) none [.Return (some E) p3] p2 :: hds) ((c, f) :: l)
section
variable {cl : Nat → Addr} {X : Cx} {X8 : List Nat} {W : WX} {i : Nat} {n : Str} {body : List Stmt} {eb : ES} {h0 : ExceptHandler} {hds : List ExceptHandler} {l : List (Nat × HV)} {pos : Pos}
def hTS (C : RC) (X8 : List Nat) (o : Option Nat) (f : HV) : TH := fun a cls d D σ H => tHE C X8 o a cls d f σ H D.rt
theorem hd_cls (T : XT X.K X.mg cl X8) (hN : X.N.Nodup) : ∀ {hds : List ExceptHandler} {l : List (Nat × HV)}, HdR cl X X8 i n hds l → ∃ l' : List (Value × Bool × TH), Cls3 X i n hds l' ∧
    ∀ (D : Ends) (e : Exn) (st : Sto) (G : Hp) (m : List Addr) (H : Hp) (σ : L2.St) (cls : Value) (d : Option Addr), e.cls ∈ X8 → Rl (rc X cl) G m H st → ExcR (rc X cl) G H e cls d → i < σ.length →
      (match hPick l e st with
        | some (some x) => ∀ v H' G' m', Ext G m H G' m' H' → Rl (rc X cl) G' m' H' st → Rep (rc X cl) G' v x → D.rt v H'
        | some none => False
        | none => W cls d σ H) → wCl X.K i W D l' cls d σ H := by
  intro hds l h
  induction h with
  | nil => exact ⟨[], .nil, fun D e st G m H σ cls d _ _ _ _ h => h⟩
  | @named y E f p p2 p3 hds l c hc hy hg hdb he hi hl r ih =>
    obtain ⟨l', c1, c2⟩ := ih
    refine ⟨(.ref (cl c), true, hTS (rc X cl) X8 (some i) f) :: l', .named ⟨hg, hdb, .inl (hy ▸ T.g c hc)⟩ (fun a oe cls d pn z zf => pss_one ((ps_ret (he a oe cls d pn z zf)).impM fun D σ H h => h)) hi hl c1, fun D e st G m H σ cls d h18 rl ex hlen h => ?_⟩
    refine ⟨isSub e.cls c, by rw [ex.1]; exact (T.c e.cls h18).ex c hc, fun hb a ha => ⟨fun _ => ?_, fun z => by cases z⟩, fun hb => ?_⟩
    · unfold hPick at h
      rw [if_pos hb] at h
      dsimp only at h
      cases hf : f e st with
      | none => rw [hf] at h; exact h.elim
      | some x =>
        rw [hf] at h
        exact ⟨G, m, st, e, x, rl, ex, h18, fun k hk => by cases hk; exact List.getElem?_set_self hlen, hf, h⟩
    · unfold hPick at h
      rw [if_neg (by rw [hb]; exact Bool.false_ne_true)] at h
      exact c2 D e st G m H σ cls d h18 rl ex hlen h
  | @bare y E f p p2 p3 hds l c hc hy hg hdb he r ih =>
    obtain ⟨l', c1, c2⟩ := ih
    refine ⟨(.ref (cl c), false, hTS (rc X cl) X8 none f) :: l', .bare ⟨hg, hdb, .inl (hy ▸ T.g c hc)⟩ (fun a oe cls d pn z zf => pss_one ((ps_ret (he a oe cls d pn z zf)).impM fun D σ H h => h)) c1, fun D e st G m H σ cls d h18 rl ex hlen h => ?_⟩
    refine ⟨isSub e.cls c, by rw [ex.1]; exact (T.c e.cls h18).ex c hc, fun hb a ha => ⟨fun z => (by cases z), fun _ => ?_⟩, fun hb => ?_⟩
    · unfold hPick at h
      rw [if_pos hb] at h
      dsimp only at h
      cases hf : f e st with
      | none => rw [hf] at h; exact h.elim
      | some x =>
        rw [hf] at h
        exact ⟨G, m, st, e, x, rl, ex, h18, fun k hk => (by cases hk), hf, h⟩
    · unfold hPick at h
      rw [if_neg (by rw [hb]; exact Bool.false_ne_true)] at h
      exact c2 D e st G m H σ cls d h18 rl ex hlen h
theorem ss_try (T : XT X.K X.mg cl X8) (hs : X.stack = X.env :: X.outer) (hf : X.env.frame = some X.env.locals) (hN : X.N.Nodup) (tk : L2N.Takes X W)
    (hb : ∀ (W : WX) (pn : List (Addr × Obj)) (xe : Value → Shared → Prop), L2N.Takes (X.tr pn xe) W → PassesOwn (model X.prog X.w) X.A X.env xe → SSs cl (X.tr pn xe) W body eb)
    (hh : HdR cl X X8 i n (h0 :: hds) l) : SS cl X W (.Try body (h0 :: hds) [] [] pos) (sTry X8 i eb l) := by
  obtain ⟨l', c1, c2⟩ := hd_cls (W := W) T hN hh
  constructor
  intro pins s σ H D I h
  refine (ps_tryC (tb := fun W => tS (rc X cl) W eb) hs hf hN tk (fun W pn xe t p => hb W pn xe t p) c1).run pins s σ H D I ?_
  obtain ⟨G, m, env, st, rl, en, p⟩ := h
  refine ⟨G, m, env, st, rl, en, ?_⟩
  unfold sTry at p
  cases e0 : eb env st with
  | bad => rw [e0] at p; exact p
  | exc e s => rw [e0] at p; exact p
  | ok fl s1 =>
    rw [e0] at p
    cases fl with
    | nx env1 => exact p
    | bk env1 => exact p
    | ct env1 => exact p
    | rt v => exact p
    | ex e env1 =>
      dsimp only at p
      intro cls d σ' H' G' m' x1 rl1 en1 ex1
      split at p
      · rename_i h18
        refine c2 D e s1 G' m' H' σ' cls d h18.1 rl1 ex1 (by rw [en1.1]; exact h18.2) ?_
        split at p
        · rename_i x ex
          exact fun v H2 G2 m2 x2 rl2 r2 => p v H2 G2 m2 (x1.trans x2) rl2 (.d r2)
        · exact p.elim
        · rename_i ex
          exact p cls d σ' H' G' m' x1 rl1 en1 ex1
      · exact p.elim
end
end Mi
end

section
set_option maxRecDepth 100000
set_option maxHeartbeats 2000000
set_option autoImplicit false
namespace Mi
open PySem PySem.Spec PyProof.Rows L2
/-! ### xs + ys, to a name that is written -/
/-! ### [f, g, ..][i](..) -/
/-- where a def stands -/
def FAt (cl : Nat → Addr) (X : Cx) (k n : Nat) (fa : Addr) (f : FN) : Prop := ∃ (fd : FuncData) (ps : List Str), FnOk X.prog X.w X.K X.mg X.base (L2N.CX X.prog X.w) k fa fd ps (spF (rc X cl) n f) ∧ PySem.W.keepIn X.K (.ref fa) = true ∧ Binds X.K fd ps []
section
variable {cl : Nat → Addr} {X : Cx} {W : WX} {pos p1 p2 : Pos} {i a : Expr} {es fe : List Expr} {er : EA} {ei : EE} {k n : Nat} {fs : List FN}
end
end Mi
end

section
set_option maxRecDepth 100000
set_option maxHeartbeats 2000000
set_option autoImplicit false
namespace Mi
open PySem PySem.Spec PyProof.Rows L2
/-! ### d.update(e), dicts of int keys -/
section
variable {cl : Nat → Addr} {X : Cx} {W : WX} {pos apos : Pos} {o a : Expr} {ea eb : EE}
end
end Mi
end

section
set_option maxRecDepth 100000
set_option autoImplicit false
namespace Mi
open PySem PySem.Spec L2
@[simp] theorem kit_NoneType_int : kitB "NoneType" "int" = some false := by decide +kernel
@[simp] theorem kit_bool_int : kitB "bool" "int" = some true := by decide +kernel
@[simp] theorem kit_int_int : kitB "int" "int" = some true := by decide +kernel
@[simp] theorem kit_str_int : kitB "str" "int" = some false := by decide +kernel
@[simp] theorem kit_list_int : kitB "list" "int" = some false := by decide +kernel
@[simp] theorem kit_tuple_int : kitB "tuple" "int" = some false := by decide +kernel
@[simp] theorem kit_dict_int : kitB "dict" "int" = some false := by decide +kernel
@[simp] theorem kit_NoneType_bool : kitB "NoneType" "bool" = some false := by decide +kernel
@[simp] theorem kit_bool_bool : kitB "bool" "bool" = some true := by decide +kernel
@[simp] theorem kit_int_bool : kitB "int" "bool" = some false := by decide +kernel
@[simp] theorem kit_str_bool : kitB "str" "bool" = some false := by decide +kernel
@[simp] theorem kit_list_bool : kitB "list" "bool" = some false := by decide +kernel
@[simp] theorem kit_tuple_bool : kitB "tuple" "bool" = some false := by decide +kernel
@[simp] theorem kit_dict_bool : kitB "dict" "bool" = some false := by decide +kernel
@[simp] theorem kit_NoneType_tuple : kitB "NoneType" "tuple" = some false := by decide +kernel
@[simp] theorem kit_bool_tuple : kitB "bool" "tuple" = some false := by decide +kernel
@[simp] theorem kit_int_tuple : kitB "int" "tuple" = some false := by decide +kernel
@[simp] theorem kit_str_tuple : kitB "str" "tuple" = some false := by decide +kernel
@[simp] theorem kit_list_tuple : kitB "list" "tuple" = some false := by decide +kernel
@[simp] theorem kit_tuple_tuple : kitB "tuple" "tuple" = some true := by decide +kernel
@[simp] theorem kit_dict_tuple : kitB "dict" "tuple" = some false := by decide +kernel
@[simp] theorem kit_NoneType_str : kitB "NoneType" "str" = some false := by decide +kernel
@[simp] theorem kit_bool_str : kitB "bool" "str" = some false := by decide +kernel
@[simp] theorem kit_int_str : kitB "int" "str" = some false := by decide +kernel
@[simp] theorem kit_str_str : kitB "str" "str" = some true := by decide +kernel
@[simp] theorem kit_list_str : kitB "list" "str" = some false := by decide +kernel
@[simp] theorem kit_tuple_str : kitB "tuple" "str" = some false := by decide +kernel
@[simp] theorem kit_dict_str : kitB "dict" "str" = some false := by decide +kernel
@[simp] theorem kit_NoneType_list : kitB "NoneType" "list" = some false := by decide +kernel
@[simp] theorem kit_bool_list : kitB "bool" "list" = some false := by decide +kernel
@[simp] theorem kit_int_list : kitB "int" "list" = some false := by decide +kernel
@[simp] theorem kit_str_list : kitB "str" "list" = some false := by decide +kernel
@[simp] theorem kit_list_list : kitB "list" "list" = some true := by decide +kernel
@[simp] theorem kit_tuple_list : kitB "tuple" "list" = some false := by decide +kernel
@[simp] theorem kit_dict_list : kitB "dict" "list" = some false := by decide +kernel

/-! ### how the reader goes on, one thing after the other -/
section
def R.andS (r : R Fl) (b : ES) : R Fl := match r with
  | .ok (.nx e) s => b e s
  | r => r
@[simp] theorem andS_nx (e : Ev) (s : Sto) (b : ES) : (R.ok (.nx e) s).andS b = b e s := rfl
@[simp] theorem andS_rt (v : Val) (s : Sto) (b : ES) : (R.ok (.rt v) s).andS b = .ok (.rt v) s := rfl
@[simp] theorem andS_ex (v : Exn) (e : Ev) (s : Sto) (b : ES) : (R.ok (.ex v e) s).andS b = .ok (.ex v e) s := rfl
@[simp] theorem andS_bad (b : ES) : (R.bad : R Fl).andS b = .bad := rfl
@[simp] theorem sSeq_eq (a b : ES) (env : Ev) (st : Sto) : sSeq a b env st = (a env st).andS b := rfl
@[simp] theorem sNx_eq (env : Ev) (st : Sto) : sNx env st = .ok (.nx env) st := rfl
@[simp] theorem sNever_eq (env : Ev) (st : Sto) : sNever env st = .bad := rfl
@[simp] theorem sRetN_eq (env : Ev) (st : Sto) : sRetN env st = .ok (.rt (.d .none)) st := rfl
def R.retS (r : R Val) (env : Ev) : R Fl := r.bindS env fun v s => .ok (.rt v) s
@[simp] theorem retS_ok (v : Val) (s : Sto) (env : Ev) : (R.ok v s).retS env = .ok (.rt v) s := rfl
@[simp] theorem retS_exc (e : Exn) (s : Sto) (env : Ev) : (R.exc e s).retS env = .ok (.ex e env) s := rfl
@[simp] theorem retS_bad (env : Ev) : (R.bad).retS env = .bad := rfl
@[simp] theorem sRet_eq (e : EE) (env : Ev) (st : Sto) : sRet e env st = (e env st).retS env := rfl
def R.dropS (r : R Val) (env : Ev) : R Fl := r.bindS env fun _ s => .ok (.nx env) s
@[simp] theorem dropS_ok (v : Val) (s : Sto) (env : Ev) : (R.ok v s).dropS env = .ok (.nx env) s := rfl
@[simp] theorem dropS_exc (e : Exn) (s : Sto) (env : Ev) : (R.exc e s).dropS env = .ok (.ex e env) s := rfl
@[simp] theorem sExpr_eq (e : EE) (env : Ev) (st : Sto) : sExpr e env st = (e env st).dropS env := rfl
def R.setS (r : R Val) (env : Ev) (i : Nat) : R Fl := r.bindS env fun v s => .ok (.nx (env.set i (some v))) s
@[simp] theorem setS_ok (v : Val) (s : Sto) (env : Ev) (i : Nat) : (R.ok v s).setS env i = .ok (.nx (env.set i (some v))) s := rfl
@[simp] theorem setS_exc (e : Exn) (s : Sto) (env : Ev) (i : Nat) : (R.exc e s).setS env i = .ok (.ex e env) s := rfl
@[simp] theorem sSet_eq (i : Nat) (e : EE) (env : Ev) (st : Sto) : sSet i e env st = (e env st).setS env i := rfl
def R.ifS (r : R Bool) (env : Ev) (a b : ES) : R Fl := r.bindS env fun v s => match v with
  | true => a env s
  | false => b env s
@[simp] theorem ifS_true (s : Sto) (env : Ev) (a b : ES) : (R.ok true s).ifS env a b = a env s := rfl
@[simp] theorem ifS_false (s : Sto) (env : Ev) (a b : ES) : (R.ok false s).ifS env a b = b env s := rfl
@[simp] theorem sIf_eq (t : ET) (a b : ES) (env : Ev) (st : Sto) : sIf t a b env st = (t env st).ifS env a b := rfl
@[simp] theorem eC_eq (x : D) (env : Ev) (st : Sto) : eC x env st = .ok (.d x) st := rfl
def R.op2 (r : R Val) (f : Val → Val → Sto → Option (Val × Sto)) (x : Val) : R Val := r.bind fun y s => R.of (f x y s)
def R.op1 (r : R Val) (f : Val → Val → Sto → Option (Val × Sto)) (b : EE) (env : Ev) : R Val := r.bind fun x s => (b env s).op2 f x
@[simp] theorem op2_ok (y : Val) (s : Sto) (f : Val → Val → Sto → Option (Val × Sto)) (x : Val) : (R.ok y s).op2 f x = R.of (f x y s) := rfl
@[simp] theorem op1_ok (x : Val) (s : Sto) (f : Val → Val → Sto → Option (Val × Sto)) (b : EE) (env : Ev) : (R.ok x s).op1 f b env = (b env s).op2 f x := rfl
@[simp] theorem eOp_eq (f : Val → Val → Sto → Option (Val × Sto)) (a b : EE) (env : Ev) (st : Sto) : eOp f a b env st = (a env st).op1 f b env := rfl
def R.tst (r : R Val) : R Bool := r.bind fun v s => match v with
  | .d (.bool b) => .ok b s
  | _ => .bad
@[simp] theorem tst_ok (b : Bool) (s : Sto) : (R.ok (.d (.bool b)) s).tst = .ok b s := rfl
@[simp] theorem eTst_eq (a : EE) (env : Ev) (st : Sto) : eTst a env st = (a env st).tst := rfl
@[simp] theorem aNil_eq (env : Ev) (st : Sto) : aNil env st = .ok [] st := rfl
def R.cons2 (r : R (List Val)) (x : Val) : R (List Val) := r.bind fun xs s => .ok (x :: xs) s
def R.cons1 (r : R Val) (b : EA) (env : Ev) : R (List Val) := r.bind fun x s => (b env s).cons2 x
@[simp] theorem cons2_ok (xs : List Val) (s : Sto) (x : Val) : (R.ok xs s).cons2 x = .ok (x :: xs) s := rfl
@[simp] theorem cons1_ok (x : Val) (s : Sto) (b : EA) (env : Ev) : (R.ok x s).cons1 b env = (b env s).cons2 x := rfl
@[simp] theorem aCons_eq (a : EE) (r : EA) (env : Ev) (st : Sto) : aCons a r env st = (a env st).cons1 r env := rfl
def R.cb (r : R (List Val)) (f : BF) : R Val := r.bind fun vs s => R.of (f vs s)
@[simp] theorem cb_ok (vs : List Val) (s : Sto) (f : BF) : (R.ok vs s).cb f = R.of (f vs s) := rfl
@[simp] theorem eCB_eq (f : BF) (a : EA) (env : Ev) (st : Sto) : eCB f a env st = (a env st).cb f := rfl
def R.cl (r : R (List Val)) (n : Nat) (f : FN) : R Val := r.bind fun vs s => if vs.length = n then f vs s else .bad
@[simp] theorem cl_ok (vs : List Val) (s : Sto) (n : Nat) (f : FN) : (R.ok vs s).cl n f = if vs.length = n then f vs s else .bad := rfl
@[simp] theorem eCl_eq (n : Nat) (f : FN) (a : EA) (env : Ev) (st : Sto) : eCl n f a env st = (a env st).cl n f := rfl
def R.getv (o : Option (Option Val)) (st : Sto) : R Val := match o with
  | some (some v) => .ok v st
  | _ => .bad
@[simp] theorem getv_ok (v : Val) (st : Sto) : R.getv (some (some v)) st = .ok v st := rfl
@[simp] theorem eVar_eq (i : Nat) (env : Ev) (st : Sto) : eVar i env st = R.getv env[i]? st := rfl
def R.kand (r : R Bool) (b : ET) (env : Ev) : R Bool := r.bind fun v s => match v with
  | true => b env s
  | false => .ok false s
@[simp] theorem kand_true (s : Sto) (b : ET) (env : Ev) : (R.ok true s).kand b env = b env s := rfl
@[simp] theorem kand_false (s : Sto) (b : ET) (env : Ev) : (R.ok false s).kand b env = .ok false s := rfl
@[simp] theorem kAnd_eq (a b : ET) (env : Ev) (st : Sto) : kAnd a b env st = (a env st).kand b env := rfl
def R.kor (r : R Bool) (b : ET) (env : Ev) : R Bool := r.bind fun v s => match v with
  | true => .ok true s
  | false => b env s
@[simp] theorem kor_true (s : Sto) (b : ET) (env : Ev) : (R.ok true s).kor b env = .ok true s := rfl
@[simp] theorem kor_false (s : Sto) (b : ET) (env : Ev) : (R.ok false s).kor b env = b env s := rfl
@[simp] theorem kOr_eq (a b : ET) (env : Ev) (st : Sto) : kOr a b env st = (a env st).kor b env := rfl
def R.knot (r : R Bool) : R Bool := r.bind fun v s => .ok (!v) s
@[simp] theorem knot_ok (b : Bool) (s : Sto) : (R.ok b s).knot = .ok (!b) s := rfl
@[simp] theorem kNot_eq (a : ET) (env : Ev) (st : Sto) : kNot a env st = (a env st).knot := rfl
@[simp] theorem kYes_eq (env : Ev) (st : Sto) : kYes env st = .ok true st := rfl
def R.ifE (r : R Bool) (env : Ev) (a b : EE) : R Val := r.bind fun v s => match v with
  | true => a env s
  | false => b env s
@[simp] theorem ifE_true (s : Sto) (env : Ev) (a b : EE) : (R.ok true s).ifE env a b = a env s := rfl
@[simp] theorem ifE_false (s : Sto) (env : Ev) (a b : EE) : (R.ok false s).ifE env a b = b env s := rfl
@[simp] theorem eIf_eq (t : ET) (a b : EE) (env : Ev) (st : Sto) : eIf t a b env st = (t env st).ifE env a b := rfl
def R.tup (r : R (List Val)) : R Val := r.bind fun vs s => match toDs vs s with
  | some (xs, s2) => if small xs.length = true then .ok (.d (.tuple xs)) s2 else .bad
  | none => .bad
@[simp] theorem tup_ok (vs : List Val) (s : Sto) : (R.ok vs s).tup = match toDs vs s with
  | some (xs, s2) => if small xs.length = true then .ok (.d (.tuple xs)) s2 else .bad
  | none => .bad := rfl
@[simp] theorem eTup_eq (a : EA) (env : Ev) (st : Sto) : eTup a env st = (a env st).tup := rfl
def R.lstD (r : R (List Val)) : R Val := r.bind fun vs s => match toDs vs s with
  | some (xs, s2) => if small xs.length = true then .ok (.d (.list xs)) s2 else .bad
  | none => .bad
@[simp] theorem lstD_ok (vs : List Val) (s : Sto) : (R.ok vs s).lstD = match toDs vs s with
  | some (xs, s2) => if small xs.length = true then .ok (.d (.list xs)) s2 else .bad
  | none => .bad := rfl
@[simp] theorem eLst_eq (a : EA) (env : Ev) (st : Sto) : eLst a env st = (a env st).lstD := rfl
def R.lstR (r : R (List Val)) : R Val := r.bind fun vs s => match toDs vs s with
  | some (xs, s2) => if small xs.length = true then .ok (.r s2.length) (s2 ++ [.lst xs]) else .bad
  | none => .bad
@[simp] theorem lstR_ok (vs : List Val) (s : Sto) : (R.ok vs s).lstR = match toDs vs s with
  | some (xs, s2) => if small xs.length = true then .ok (.r s2.length) (s2 ++ [.lst xs]) else .bad
  | none => .bad := rfl
@[simp] theorem eLstR_eq (a : EA) (env : Ev) (st : Sto) : eLstR a env st = (a env st).lstR := rfl
@[simp] theorem toDs_nil (st : Sto) : toDs [] st = some ([], st) := rfl
@[simp] theorem toDs_d (x : D) (vs : List Val) (st : Sto) : toDs (.d x :: vs) st = match toDs vs st with
  | some (xs, s2) => some (x :: xs, s2)
  | none => none := rfl
def R.isi (r : R Val) (T : String) : R Val := r.bind fun v s => match tyOf v s with
  | some t => (match kitB t T with
    | some b => .ok (.d (.bool b)) s
    | none => .bad)
  | none => .bad
@[simp] theorem isi_ok (v : Val) (s : Sto) (T : String) : (R.ok v s).isi T = match tyOf v s with
  | some t => (match kitB t T with
    | some b => .ok (.d (.bool b)) s
    | none => .bad)
  | none => .bad := rfl
@[simp] theorem eIsi_eq (T : String) (a : EE) (env : Ev) (st : Sto) : eIsi T a env st = (a env st).isi T := rfl
def R.notE (r : R Val) : R Val := r.bind fun v s => match v with
  | .d (.bool b) => .ok (.d (.bool (!b))) s
  | _ => .bad
@[simp] theorem notE_ok (b : Bool) (s : Sto) : (R.ok (.d (.bool b)) s).notE = .ok (.d (.bool (!b))) s := rfl
@[simp] theorem eNot_eq (a : EE) (env : Ev) (st : Sto) : eNot a env st = (a env st).notE := rfl
def R.andE (r : R Val) (b : EE) (env : Ev) : R Val := r.bind fun v s => match v with
  | .d (.bool true) => b env s
  | .d (.bool false) => .ok (.d (.bool false)) s
  | _ => .bad
@[simp] theorem andE_true (s : Sto) (b : EE) (env : Ev) : (R.ok (.d (.bool true)) s).andE b env = b env s := rfl
@[simp] theorem andE_false (s : Sto) (b : EE) (env : Ev) : (R.ok (.d (.bool false)) s).andE b env = .ok (.d (.bool false)) s := rfl
@[simp] theorem eAnd_eq (a b : EE) (env : Ev) (st : Sto) : eAnd a b env st = (a env st).andE b env := rfl
def R.orE (r : R Val) (b : EE) (env : Ev) : R Val := r.bind fun v s => match v with
  | .d (.bool true) => .ok (.d (.bool true)) s
  | .d (.bool false) => b env s
  | _ => .bad
@[simp] theorem orE_true (s : Sto) (b : EE) (env : Ev) : (R.ok (.d (.bool true)) s).orE b env = .ok (.d (.bool true)) s := rfl
@[simp] theorem orE_false (s : Sto) (b : EE) (env : Ev) : (R.ok (.d (.bool false)) s).orE b env = b env s := rfl
@[simp] theorem eOr_eq (a b : EE) (env : Ev) (st : Sto) : eOr a b env st = (a env st).orE b env := rfl
def R.ch3 (r : R Val) (g : Val → Val → Sto → Option (Val × Sto)) (y : Val) (c : EE) (env : Ev) : R Val := r.bind fun z s => match z with
  | .d (.bool true) => (c env s).op2 g y
  | .d (.bool false) => .ok (.d (.bool false)) s
  | _ => .bad
def R.ch2 (r : R Val) (f g : Val → Val → Sto → Option (Val × Sto)) (x : Val) (c : EE) (env : Ev) : R Val := r.bind fun y s => (R.of (f x y s)).ch3 g y c env
def R.ch1 (r : R Val) (f g : Val → Val → Sto → Option (Val × Sto)) (b c : EE) (env : Ev) : R Val := r.bind fun x s => (b env s).ch2 f g x c env
@[simp] theorem ch3_true (s : Sto) (g : Val → Val → Sto → Option (Val × Sto)) (y : Val) (c : EE) (env : Ev) : (R.ok (.d (.bool true)) s).ch3 g y c env = (c env s).op2 g y := rfl
@[simp] theorem ch3_false (s : Sto) (g : Val → Val → Sto → Option (Val × Sto)) (y : Val) (c : EE) (env : Ev) : (R.ok (.d (.bool false)) s).ch3 g y c env = .ok (.d (.bool false)) s := rfl
@[simp] theorem ch2_ok (y : Val) (s : Sto) (f g : Val → Val → Sto → Option (Val × Sto)) (x : Val) (c : EE) (env : Ev) : (R.ok y s).ch2 f g x c env = (R.of (f x y s)).ch3 g y c env := rfl
@[simp] theorem ch1_ok (x : Val) (s : Sto) (f g : Val → Val → Sto → Option (Val × Sto)) (b c : EE) (env : Ev) : (R.ok x s).ch1 f g b c env = (b env s).ch2 f g x c env := rfl
@[simp] theorem eChain_eq (f g : Val → Val → Sto → Option (Val × Sto)) (a b c : EE) (env : Ev) (st : Sto) : eChain f g a b c env st = (a env st).ch1 f g b c env := rfl
def R.parS (r : R (List Val)) (env : Ev) (is : List Nat) : R Fl := r.bindS env fun vs s => if vs.length = is.length then .ok (.nx (setVs is vs env)) s else .bad
@[simp] theorem parS_ok (vs : List Val) (s : Sto) (env : Ev) (is : List Nat) : (R.ok vs s).parS env is = if vs.length = is.length then .ok (.nx (setVs is vs env)) s else .bad := rfl
@[simp] theorem sParN_eq (is : List Nat) (ea : EA) (env : Ev) (st : Sto) : sParN is ea env st = (ea env st).parS env is := rfl
def R.listD (r : R (List D)) : R Val := r.bind fun ds s => .ok (.d (.list ds)) s
@[simp] theorem listD_ok (ds : List D) (s : Sto) : (R.ok ds s).listD = .ok (.d (.list ds)) s := rfl
def R.lcE (r : R (List D)) (vs : List Nat) (tg : Tg) (tt : ET) (ee : EE) (env : Ev) : R Val := r.bind fun xs s => if small xs.length = true then (compL tg tt ee (wipeE env vs) xs s).listD else .bad
@[simp] theorem lcE_ok (xs : List D) (s : Sto) (vs : List Nat) (tg : Tg) (tt : ET) (ee : EE) (env : Ev) : (R.ok xs s).lcE vs tg tt ee env = if small xs.length = true then (compL tg tt ee (wipeE env vs) xs s).listD else .bad := rfl
@[simp] theorem eLc_eq (vs : List Nat) (tg : Tg) (ei : EI) (tt : ET) (ee : EE) (env : Ev) (st : Sto) : eLc vs tg ei tt ee env st = (ei env st).lcE vs tg tt ee env := rfl
def R.seqI (r : R Val) : R (List D) := r.bind fun v s => match v with
  | .d (.list xs) => .ok xs s
  | .d (.tuple xs) => .ok xs s
  | _ => .bad
@[simp] theorem seqI_list (xs : List D) (s : Sto) : (R.ok (.d (.list xs)) s).seqI = .ok xs s := rfl
@[simp] theorem seqI_tuple (xs : List D) (s : Sto) : (R.ok (.d (.tuple xs)) s).seqI = .ok xs s := rfl
@[simp] theorem iSeq_eq (e : EE) (env : Ev) (st : Sto) : iSeq e env st = (e env st).seqI := rfl
def R.rangeI (r : R (List Val)) : R (List D) := r.bind fun vs s => match vs with
  | [.d (.int n)] => if -(2 ^ 62) ≤ n ∧ n ≤ 1000000 then .ok ((List.range n.toNat).map fun k => PyData.int (0 + (k : Nat))) s else .bad
  | _ => .bad
@[simp] theorem rangeI_ok (n : Int) (s : Sto) : (R.ok [.d (.int n)] s).rangeI = if -(2 ^ 62) ≤ n ∧ n ≤ 1000000 then .ok ((List.range n.toNat).map fun k => PyData.int (0 + (k : Nat))) s else .bad := rfl
@[simp] theorem iRange_eq (a : EA) (env : Ev) (st : Sto) : iRange a env st = (a env st).rangeI := rfl
def R.forS (r : R (List D)) (tg : Tg) (body : ES) (env : Ev) : R Fl := r.bindS env fun xs s => forL tg body xs env s
@[simp] theorem forS_ok (xs : List D) (s : Sto) (tg : Tg) (body : ES) (env : Ev) : (R.ok xs s).forS tg body env = forL tg body xs env s := rfl
@[simp] theorem sFor_eq (tg : Tg) (ei : EI) (body : ES) (env : Ev) (st : Sto) : sFor tg ei body env st = (ei env st).forS tg body env := rfl
def R.slS3 (r : R (Option Int)) (x : Val) (l : Option Int) : R Val := r.bind fun h s => R.of (vSl x l h s)
def R.slS2 (r : R (Option Int)) (x : Val) (hi : EO) (env : Ev) : R Val := r.bind fun l s => (hi env s).slS3 x l
def R.slS1 (r : R Val) (lo hi : EO) (env : Ev) : R Val := r.bind fun x s => (lo env s).slS2 x hi env
@[simp] theorem slS3_ok (h : Option Int) (s : Sto) (x : Val) (l : Option Int) : (R.ok h s).slS3 x l = R.of (vSl x l h s) := rfl
@[simp] theorem slS2_ok (l : Option Int) (s : Sto) (x : Val) (hi : EO) (env : Ev) : (R.ok l s).slS2 x hi env = (hi env s).slS3 x l := rfl
@[simp] theorem slS1_ok (x : Val) (s : Sto) (lo hi : EO) (env : Ev) : (R.ok x s).slS1 lo hi env = (lo env s).slS2 x hi env := rfl
@[simp] theorem eSl_eq (a : EE) (lo hi : EO) (env : Ev) (st : Sto) : eSl a lo hi env st = (a env st).slS1 lo hi env := rfl
@[simp] theorem oNone_eq (env : Ev) (st : Sto) : oNone env st = .ok none st := rfl
def R.oS (r : R Val) : R (Option Int) := r.bind fun v s => match v with
  | .d (.int i) => .ok (some i) s
  | _ => .bad
@[simp] theorem oS_ok (i : Int) (s : Sto) : (R.ok (.d (.int i)) s).oS = .ok (some i) s := rfl
@[simp] theorem oSome_eq (a : EE) (env : Ev) (st : Sto) : oSome a env st = (a env st).oS := rfl
def R.setTS (r : R Val) (env : Ev) (tg : Tg) : R Fl := r.bindS env fun v s => match v with
  | .d d => (match tg.put d env with
    | some env' => .ok (.nx env') s
    | none => .bad)
  | _ => .bad
@[simp] theorem setTS_ok (d : D) (s : Sto) (env : Ev) (tg : Tg) : (R.ok (.d d) s).setTS env tg = match tg.put d env with
    | some env' => .ok (.nx env') s
    | none => .bad := rfl
@[simp] theorem sSetT_eq (tg : Tg) (e : EE) (env : Ev) (st : Sto) : sSetT tg e env st = (e env st).setTS env tg := rfl
def R.starS (r : R Val) (env : Ev) (i j : Nat) : R Fl := r.bindS env fun v s => match v with
  | .d (.tuple (x :: xs)) => .ok (.nx ((env.set i (some (.d x))).set j (some (.d (.list xs))))) s
  | _ => .bad
@[simp] theorem starS_ok (x : D) (xs : List D) (s : Sto) (env : Ev) (i j : Nat) : (R.ok (.d (.tuple (x :: xs))) s).starS env i j = .ok (.nx ((env.set i (some (.d x))).set j (some (.d (.list xs))))) s := rfl
@[simp] theorem sStar_eq (i j : Nat) (e : EE) (env : Ev) (st : Sto) : sStar i j e env st = (e env st).starS env i j := rfl
def R.app2 (r : R Val) (i : Nat) : R Val := r.bind fun u s2 => (match toD u s2 with
      | some (x, s3) => (match s3[i]? with
        | some (.lst xs) => if xs.length < 1000000 then .ok (.d .none) (s3.set i (.lst (xs ++ [x]))) else .bad
        | _ => .bad)
      | none => .bad)
def R.app1 (r : R Val) (a : EE) (env : Ev) : R Val := r.bind fun v s1 => match v with
  | .r i => (match s1[i]? with
    | some (.lst _) => (a env s1).app2 i
    | _ => .bad)
  | _ => .bad
@[simp] theorem app2_ok (x : D) (s : Sto) (i : Nat) : (R.ok (.d x) s).app2 i = match s[i]? with
        | some (.lst xs) => if xs.length < 1000000 then .ok (.d .none) (s.set i (.lst (xs ++ [x]))) else .bad
        | _ => .bad := rfl
@[simp] theorem app1_ok (i : Nat) (s : Sto) (a : EE) (env : Ev) : (R.ok (.r i) s).app1 a env = match s[i]? with
    | some (.lst _) => (a env s).app2 i
    | _ => .bad := rfl
@[simp] theorem eAppend_eq (o a : EE) (env : Ev) (st : Sto) : eAppend o a env st = (o env st).app1 a env := rfl
def R.negE (r : R Val) : R Val := r.bind fun v s => match v with
  | .d (.int i) => .ok (.d (.int (-i))) s
  | _ => .bad
@[simp] theorem negE_ok (i : Int) (s : Sto) : (R.ok (.d (.int i)) s).negE = .ok (.d (.int (-i))) s := rfl
@[simp] theorem eNeg_eq (a : EE) (env : Ev) (st : Sto) : eNeg a env st = (a env st).negE := rfl
def R.fin0 (r : R Fl) (n : Nat) : R Val := match r with
    | .ok (.nx _) s => fin n (.d .none) s
    | .ok (.rt v) s => fin n v s
    | .ok (.ex e _) s => if insOk n (s.take n) = true then .exc e (s.take n) else .bad
    | _ => .bad
@[simp] theorem fin0_nx (e : Ev) (s : Sto) (n : Nat) : (R.ok (.nx e) s).fin0 n = fin n (.d .none) s := rfl
@[simp] theorem fin0_rt (v : Val) (s : Sto) (n : Nat) : (R.ok (.rt v) s).fin0 n = fin n v s := rfl
theorem runF_eq (N np : Nat) (ev : ES) (as : List Val) (st : Sto) (h : as.length = np) : runF N np ev as st = (ev (as.map some ++ List.replicate (N - np) none) st).fin0 st.length := by
  unfold runF
  rw [if_pos h]; rfl
@[simp] theorem noX_ok {α : Type} (a : α) (s : Sto) : noX (R.ok a s) = R.ok a s := rfl
end
/-- no objects of own classes in the store -/
def Okk (st : Sto) : Prop := insOk st.length st = true
@[simp] theorem fin_d (st : Sto) (h : Okk st) (x : D) : fin st.length (.d x) st = .ok (.d x) st := by
  unfold fin
  rw [List.take_length, if_pos (show insOk _ _ = true from h)]
theorem insOk_mono {n k : Nat} (h : n ≤ k) : ∀ {st : Sto}, insOk n st = true → insOk k st = true
  | [], _ => rfl
  | .lst _ :: r, q => insOk_mono h (st := r) q
  | .dK _ :: r, q => insOk_mono h (st := r) q
  | .dN _ :: r, q => insOk_mono h (st := r) q
  | .dL _ :: r, q => insOk_mono h (st := r) q
  | .gone :: r, q => insOk_mono h (st := r) q
  | .ins c fs :: r, q => by
    simp only [insOk, Bool.and_eq_true, List.all_eq_true] at q ⊢
    refine ⟨fun x hx => ?_, insOk_mono h q.2⟩
    have := q.1 x hx
    split at this <;> simp_all
    omega
/-! ### words -/
@[simp] theorem w_fact_after : (("fact" : Str) == ("after" : Str)) = false := by decide +kernel
@[simp] theorem w_fact_holds : (("fact" : Str) == ("holds" : Str)) = false := by decide +kernel
@[simp] theorem w_fact_may : (("fact" : Str) == ("may" : Str)) = false := by decide +kernel
@[simp] theorem w_fact_and : (("fact" : Str) == ("and" : Str)) = false := by decide +kernel
@[simp] theorem w_fact_or : (("fact" : Str) == ("or" : Str)) = false := by decide +kernel
@[simp] theorem w_fact_not : (("fact" : Str) == ("not" : Str)) = false := by decide +kernel
@[simp] theorem w_fact_all : (("fact" : Str) == ("all" : Str)) = false := by decide +kernel
@[simp] theorem w_fact_common : (("fact" : Str) == ("common" : Str)) = false := by decide +kernel
@[simp] theorem w_after_fact : (("after" : Str) == ("fact" : Str)) = false := by decide +kernel
@[simp] theorem w_after_holds : (("after" : Str) == ("holds" : Str)) = false := by decide +kernel
@[simp] theorem w_after_may : (("after" : Str) == ("may" : Str)) = false := by decide +kernel
@[simp] theorem w_after_and : (("after" : Str) == ("and" : Str)) = false := by decide +kernel
@[simp] theorem w_after_or : (("after" : Str) == ("or" : Str)) = false := by decide +kernel
@[simp] theorem w_after_not : (("after" : Str) == ("not" : Str)) = false := by decide +kernel
@[simp] theorem w_after_all : (("after" : Str) == ("all" : Str)) = false := by decide +kernel
@[simp] theorem w_after_common : (("after" : Str) == ("common" : Str)) = false := by decide +kernel
@[simp] theorem w_holds_fact : (("holds" : Str) == ("fact" : Str)) = false := by decide +kernel
@[simp] theorem w_holds_after : (("holds" : Str) == ("after" : Str)) = false := by decide +kernel
@[simp] theorem w_holds_may : (("holds" : Str) == ("may" : Str)) = false := by decide +kernel
@[simp] theorem w_holds_and : (("holds" : Str) == ("and" : Str)) = false := by decide +kernel
@[simp] theorem w_holds_or : (("holds" : Str) == ("or" : Str)) = false := by decide +kernel
@[simp] theorem w_holds_not : (("holds" : Str) == ("not" : Str)) = false := by decide +kernel
@[simp] theorem w_holds_all : (("holds" : Str) == ("all" : Str)) = false := by decide +kernel
@[simp] theorem w_holds_common : (("holds" : Str) == ("common" : Str)) = false := by decide +kernel
@[simp] theorem w_may_fact : (("may" : Str) == ("fact" : Str)) = false := by decide +kernel
@[simp] theorem w_may_after : (("may" : Str) == ("after" : Str)) = false := by decide +kernel
@[simp] theorem w_may_holds : (("may" : Str) == ("holds" : Str)) = false := by decide +kernel
@[simp] theorem w_may_and : (("may" : Str) == ("and" : Str)) = false := by decide +kernel
@[simp] theorem w_may_or : (("may" : Str) == ("or" : Str)) = false := by decide +kernel
@[simp] theorem w_may_not : (("may" : Str) == ("not" : Str)) = false := by decide +kernel
@[simp] theorem w_may_all : (("may" : Str) == ("all" : Str)) = false := by decide +kernel
@[simp] theorem w_may_common : (("may" : Str) == ("common" : Str)) = false := by decide +kernel
@[simp] theorem w_and_fact : (("and" : Str) == ("fact" : Str)) = false := by decide +kernel
@[simp] theorem w_and_after : (("and" : Str) == ("after" : Str)) = false := by decide +kernel
@[simp] theorem w_and_holds : (("and" : Str) == ("holds" : Str)) = false := by decide +kernel
@[simp] theorem w_and_may : (("and" : Str) == ("may" : Str)) = false := by decide +kernel
@[simp] theorem w_and_or : (("and" : Str) == ("or" : Str)) = false := by decide +kernel
@[simp] theorem w_and_not : (("and" : Str) == ("not" : Str)) = false := by decide +kernel
@[simp] theorem w_and_all : (("and" : Str) == ("all" : Str)) = false := by decide +kernel
@[simp] theorem w_and_common : (("and" : Str) == ("common" : Str)) = false := by decide +kernel
@[simp] theorem w_or_fact : (("or" : Str) == ("fact" : Str)) = false := by decide +kernel
@[simp] theorem w_or_after : (("or" : Str) == ("after" : Str)) = false := by decide +kernel
@[simp] theorem w_or_holds : (("or" : Str) == ("holds" : Str)) = false := by decide +kernel
@[simp] theorem w_or_may : (("or" : Str) == ("may" : Str)) = false := by decide +kernel
@[simp] theorem w_or_and : (("or" : Str) == ("and" : Str)) = false := by decide +kernel
@[simp] theorem w_or_not : (("or" : Str) == ("not" : Str)) = false := by decide +kernel
@[simp] theorem w_or_all : (("or" : Str) == ("all" : Str)) = false := by decide +kernel
@[simp] theorem w_or_common : (("or" : Str) == ("common" : Str)) = false := by decide +kernel
@[simp] theorem w_not_fact : (("not" : Str) == ("fact" : Str)) = false := by decide +kernel
@[simp] theorem w_not_after : (("not" : Str) == ("after" : Str)) = false := by decide +kernel
@[simp] theorem w_not_holds : (("not" : Str) == ("holds" : Str)) = false := by decide +kernel
@[simp] theorem w_not_may : (("not" : Str) == ("may" : Str)) = false := by decide +kernel
@[simp] theorem w_not_and : (("not" : Str) == ("and" : Str)) = false := by decide +kernel
@[simp] theorem w_not_or : (("not" : Str) == ("or" : Str)) = false := by decide +kernel
@[simp] theorem w_not_all : (("not" : Str) == ("all" : Str)) = false := by decide +kernel
@[simp] theorem w_not_common : (("not" : Str) == ("common" : Str)) = false := by decide +kernel
@[simp] theorem w_all_fact : (("all" : Str) == ("fact" : Str)) = false := by decide +kernel
@[simp] theorem w_all_after : (("all" : Str) == ("after" : Str)) = false := by decide +kernel
@[simp] theorem w_all_holds : (("all" : Str) == ("holds" : Str)) = false := by decide +kernel
@[simp] theorem w_all_may : (("all" : Str) == ("may" : Str)) = false := by decide +kernel
@[simp] theorem w_all_and : (("all" : Str) == ("and" : Str)) = false := by decide +kernel
@[simp] theorem w_all_or : (("all" : Str) == ("or" : Str)) = false := by decide +kernel
@[simp] theorem w_all_not : (("all" : Str) == ("not" : Str)) = false := by decide +kernel
@[simp] theorem w_all_common : (("all" : Str) == ("common" : Str)) = false := by decide +kernel
@[simp] theorem w_common_fact : (("common" : Str) == ("fact" : Str)) = false := by decide +kernel
@[simp] theorem w_common_after : (("common" : Str) == ("after" : Str)) = false := by decide +kernel
@[simp] theorem w_common_holds : (("common" : Str) == ("holds" : Str)) = false := by decide +kernel
@[simp] theorem w_common_may : (("common" : Str) == ("may" : Str)) = false := by decide +kernel
@[simp] theorem w_common_and : (("common" : Str) == ("and" : Str)) = false := by decide +kernel
@[simp] theorem w_common_or : (("common" : Str) == ("or" : Str)) = false := by decide +kernel
@[simp] theorem w_common_not : (("common" : Str) == ("not" : Str)) = false := by decide +kernel
@[simp] theorem w_common_all : (("common" : Str) == ("all" : Str)) = false := by decide +kernel
@[simp] theorem eqv_int (i j : Int) : PyData.eqv (.int i) (.int j) = (i == j) := rfl
@[simp] theorem eqv_str (i j : Str) : PyData.eqv (.str i) (.str j) = (i == j) := rfl
@[simp] theorem eqv_tn (xs : List D) : PyData.eqv (.tuple xs) .none = false := rfl
@[simp] theorem eqv_t0 (x : D) (xs : List D) : PyData.eqv (.tuple (x :: xs)) (.tuple []) = false := rfl
@[simp] theorem fits_int (i j : Int) : fits (.int i) (.int j) = true := by simp [fits, PyData.plain, PyData.depth]
@[simp] theorem fits_str (i j : Str) : fits (.str i) (.str j) = true := by simp [fits, PyData.plain, PyData.depth]
@[simp] theorem plain_int (i : Int) : PyData.plain (.int i) = true := rfl
@[simp] theorem plain_str (i : Str) : PyData.plain (.str i) = true := rfl
@[simp] theorem plain_tup (xs : List D) : PyData.plain (.tuple xs) = PyData.plainAll xs := rfl
@[simp] theorem plain_lst (xs : List D) : PyData.plain (.list xs) = PyData.plainAll xs := rfl
@[simp] theorem plainAll_nil : PyData.plainAll [] = true := rfl
@[simp] theorem plainAll_cons (x : D) (xs : List D) : PyData.plainAll (x :: xs) = (PyData.plain x && PyData.plainAll xs) := rfl
@[simp] theorem depth_int (x : Int) : PyData.depth (.int x) = 0 := rfl
@[simp] theorem depth_str (x : Str) : PyData.depth (.str x) = 0 := rfl
@[simp] theorem depth_non : PyData.depth .none = 0 := rfl
@[simp] theorem depth_bool (x : Bool) : PyData.depth (.bool x) = 0 := rfl
@[simp] theorem plain_non : PyData.plain .none = true := rfl
@[simp] theorem plain_bool (x : Bool) : PyData.plain (.bool x) = true := rfl
@[simp] theorem depth_tup0 : PyData.depth (.tuple []) = 1 := rfl
end Mi
end

section
set_option maxRecDepth 100000
set_option autoImplicit false
namespace Mi
open PySem PySem.Spec L2
def R.zipI (r : R (List Val)) : R (List D) := r.bind fun vs s => match zipOf vs with
  | some xs => .ok xs s
  | none => .bad
@[simp] theorem zipI_tup (xs ys : List D) (s : Sto) : (R.ok [.d (.tuple xs), .d (.tuple ys)] s).zipI = .ok (zipD xs ys) s := rfl
@[simp] theorem zipI_lst (xs ys : List D) (s : Sto) : (R.ok [.d (.list xs), .d (.list ys)] s).zipI = .ok (zipD xs ys) s := rfl
@[simp] theorem iZip_eq (a : EA) (env : Ev) (st : Sto) : iZip a env st = (a env st).zipI := rfl
def R.lc2D (r : R (List D)) : R Val := r.bind fun ds s2 => if small ds.length = true then .ok (.d (.list ds)) s2 else .bad
@[simp] theorem lc2D_ok (ds : List D) (s : Sto) : (R.ok ds s).lc2D = if small ds.length = true then .ok (.d (.list ds)) s else .bad := rfl
def R.lc2E (r : R (List D)) (vs vs1 : List Nat) (tg : Tg) (tt : ET) (tg1 : Tg) (ei1 : EI) (tt1 : ET) (ee : EE) (env : Ev) : R Val := r.bind fun xs s => (compL2 tg tt ei1 vs1 tg1 tt1 ee (wipeE env vs) xs s).lc2D
@[simp] theorem lc2E_ok (xs : List D) (s : Sto) (vs vs1 : List Nat) (tg : Tg) (tt : ET) (tg1 : Tg) (ei1 : EI) (tt1 : ET) (ee : EE) (env : Ev) : (R.ok xs s).lc2E vs vs1 tg tt tg1 ei1 tt1 ee env = (compL2 tg tt ei1 vs1 tg1 tt1 ee (wipeE env vs) xs s).lc2D := rfl
@[simp] theorem eLc2_eq (vs vs1 : List Nat) (tg : Tg) (ei : EI) (tt : ET) (tg1 : Tg) (ei1 : EI) (tt1 : ET) (ee : EE) (env : Ev) (st : Sto) : eLc2 vs vs1 tg ei tt tg1 ei1 tt1 ee env st = (ei env st).lc2E vs vs1 tg tt tg1 ei1 tt1 ee env := rfl
theorem boolsOf_mp {α : Type} (f : α → Bool) : ∀ xs : List α, boolsOf (xs.map fun x => PyData.bool (f x)) = some (xs.map f)
  | [] => rfl
  | x :: xs => by simp [boolsOf, boolsOf_mp f xs]
@[simp] theorem cut_1 {α : Type} (xs : List α) : cut xs (some 1) none = xs.drop 1 := by
  have h : HT.sIx xs.length 0 (some 1) = min 1 xs.length := rfl
  unfold cut
  rw [h]
  cases xs with
  | nil => rfl
  | cons x xs => simp [HT.sIx]
@[simp] theorem small_le (n : Nat) (h : n ≤ 1000000) : small n = true := by simp [small, h]
/-- the same over mirrors: each thing's data, and what becomes of it -/
theorem compL_mp {α : Type} {tg : Tg} {tt : ET} {ee : EE} {env : Ev} {st : Sto} (f g : α → D) : ∀ (xs : List α), (∀ x ∈ xs, ∃ e1, tg.put (f x) env = some e1 ∧ tt e1 st = .ok true st ∧ ee e1 st = .ok (.d (g x)) st) → compL tg tt ee env (xs.map f) st = .ok (xs.map g) st
  | [], _ => rfl
  | x :: xs, h => by
    obtain ⟨e1, h1, h2, h3⟩ := h x List.mem_cons_self
    have ih := compL_mp f g xs fun y hy => h y (List.mem_cons_of_mem _ hy)
    simp [compL, h1, h2, h3, toD, ih]
theorem compL_fl {α : Type} {tg : Tg} {tt : ET} {ee : EE} {env : Ev} {st : Sto} (f : α → D) (p : α → Bool) (g : α → D) : ∀ (xs : List α), (∀ x ∈ xs, ∃ e1, tg.put (f x) env = some e1 ∧ tt e1 st = .ok (p x) st ∧ (p x = true → ee e1 st = .ok (.d (g x)) st)) → compL tg tt ee env (xs.map f) st = .ok ((xs.filter p).map g) st
  | [], _ => rfl
  | x :: xs, h => by
    obtain ⟨e1, h1, h2, h3⟩ := h x List.mem_cons_self
    have ih := compL_fl f p g xs fun y hy => h y (List.mem_cons_of_mem _ hy)
    cases hp : p x with
    | false => simp [compL, h1, h2, hp, ih]
    | true => simp [compL, h1, h2, hp, h3 hp, toD, ih]
theorem bAll_mp {α : Type} (f : α → Bool) (xs : List α) (st : Sto) : bAll [.d (.list (xs.map fun x => .bool (f x)))] st = some (.d (.bool (xs.all f)), st) := by
  simp only [bAll, lsOf, boolsOf_mp, Option.map_some, List.all_map]
  rfl
end Mi
end

section
set_option maxRecDepth 100000
set_option autoImplicit false
namespace Mi
open PySem PySem.Spec L2
/-! ### step equations for dicts and sorted things -/
@[simp] theorem eDNewK_eq (env : Ev) (st : Sto) : eDNewK env st = .ok (.r st.length) (st ++ [.dK []]) := rfl
@[simp] theorem eDNewN_eq (env : Ev) (st : Sto) : eDNewN env st = .ok (.r st.length) (st ++ [.dN []]) := rfl
def dputF (v x y : Val) (env : Ev) (s3 : Sto) : R Fl := match x, y, toD v s3 with
  | .r j, .d kd, some (d, s4) => (match s4[j]? with
    | some (.dK ps) => (match kd with
      | .int i => if ps.length < 1000000 then .ok (.nx env) (s4.set j (.dK (kPut ps i d))) else .bad
      | _ => .bad)
    | some (.dN ps) => (match kd with
      | .tuple xs => (match nk (.tuple xs) with
        | some k => if k.depth ≤ 8 ∧ ps.length < 1000000 then .ok (.nx env) (s4.set j (.dN (nPut ps k (.tuple xs) d))) else .bad
        | none => .bad)
      | _ => .bad)
    | _ => .bad)
  | _, _, _ => .bad
def R.dput3 (r : R Val) (v x : Val) (env : Ev) : R Fl := r.bindS env fun y s3 => dputF v x y env s3
def R.dput2 (r : R Val) (v : Val) (ei : EE) (env : Ev) : R Fl := r.bindS env fun x s2 => (ei env s2).dput3 v x env
def R.dput1 (r : R Val) (eo ei : EE) (env : Ev) : R Fl := r.bindS env fun v s1 => (eo env s1).dput2 v ei env
@[simp] theorem dput3_ok (y : Val) (s : Sto) (v x : Val) (env : Ev) : (R.ok y s).dput3 v x env = dputF v x y env s := rfl
@[simp] theorem dput2_ok (x : Val) (s : Sto) (v : Val) (ei : EE) (env : Ev) : (R.ok x s).dput2 v ei env = (ei env s).dput3 v x env := rfl
@[simp] theorem dput1_ok (v : Val) (s : Sto) (eo ei : EE) (env : Ev) : (R.ok v s).dput1 eo ei env = (eo env s).dput2 v ei env := rfl
@[simp] theorem sDPut_eq (eo ei ev : EE) (env : Ev) (st : Sto) : sDPut eo ei ev env st = (ev env st).dput1 eo ei env := rfl
def R.srt (r : R (List D)) : R Val := r.bind srtD
@[simp] theorem srt_ok (ds : List D) (s : Sto) : (R.ok ds s).srt = srtD ds s := rfl
def R.sc2E (r : R (List D)) (vs vs1 : List Nat) (tg : Tg) (tt : ET) (tg1 : Tg) (ei1 : EI) (tt1 : ET) (ee : EE) (env : Ev) : R Val := r.bind fun xs s => (compL2 tg tt ei1 vs1 tg1 tt1 ee (wipeE env vs) xs s).srt
@[simp] theorem sc2E_ok (xs : List D) (s : Sto) (vs vs1 : List Nat) (tg : Tg) (tt : ET) (tg1 : Tg) (ei1 : EI) (tt1 : ET) (ee : EE) (env : Ev) : (R.ok xs s).sc2E vs vs1 tg tt tg1 ei1 tt1 ee env = (compL2 tg tt ei1 vs1 tg1 tt1 ee (wipeE env vs) xs s).srt := rfl
@[simp] theorem eSortSc2_eq (vs vs1 : List Nat) (tg : Tg) (ei : EI) (tt : ET) (tg1 : Tg) (ei1 : EI) (tt1 : ET) (ee : EE) (env : Ev) (st : Sto) : eSortSc2 vs vs1 tg ei tt tg1 ei1 tt1 ee env st = (ei env st).sc2E vs vs1 tg tt tg1 ei1 tt1 ee env := rfl
def R.dcd (r : R (List (Int × D))) : R Val := r.bind fun ds s2 => .ok (.d (.dict (ds.map fun p => (.int p.1, p.2)))) s2
def R.dcr (r : R (List (Int × D))) : R Val := r.bind fun ds s2 => .ok (.r s2.length) (s2 ++ [.dK ds])
@[simp] theorem dcd_ok (ds : List (Int × D)) (s : Sto) : (R.ok ds s).dcd = .ok (.d (.dict (ds.map fun p => (.int p.1, p.2)))) s := rfl
@[simp] theorem dcr_ok (ds : List (Int × D)) (s : Sto) : (R.ok ds s).dcr = .ok (.r s.length) (s ++ [.dK ds]) := rfl
def R.dcFE (r : R (List D)) (vs : List Nat) (tg : Tg) (tt : ET) (ek ee : EE) (env : Ev) : R Val := r.bind fun xs s => if small xs.length = true then (compD tg tt ek ee (wipeE env vs) xs [] s).dcd else .bad
def R.dcRE (r : R (List D)) (vs : List Nat) (tg : Tg) (tt : ET) (ek ee : EE) (env : Ev) : R Val := r.bind fun xs s => if small xs.length = true then (compD tg tt ek ee (wipeE env vs) xs [] s).dcr else .bad
@[simp] theorem dcFE_ok (xs : List D) (s : Sto) (vs : List Nat) (tg : Tg) (tt : ET) (ek ee : EE) (env : Ev) : (R.ok xs s).dcFE vs tg tt ek ee env = if small xs.length = true then (compD tg tt ek ee (wipeE env vs) xs [] s).dcd else .bad := rfl
@[simp] theorem dcRE_ok (xs : List D) (s : Sto) (vs : List Nat) (tg : Tg) (tt : ET) (ek ee : EE) (env : Ev) : (R.ok xs s).dcRE vs tg tt ek ee env = if small xs.length = true then (compD tg tt ek ee (wipeE env vs) xs [] s).dcr else .bad := rfl
@[simp] theorem eDcF_eq (vs : List Nat) (tg : Tg) (ei : EI) (tt : ET) (ek ee : EE) (env : Ev) (st : Sto) : eDcF vs tg ei tt ek ee env st = (ei env st).dcFE vs tg tt ek ee env := rfl
@[simp] theorem eDcR_eq (vs : List Nat) (tg : Tg) (ei : EI) (tt : ET) (ek ee : EE) (env : Ev) (st : Sto) : eDcR vs tg ei tt ek ee env st = (ei env st).dcRE vs tg tt ek ee env := rfl
def R.popE (r : R Val) : R Val := r.bind fun v s => match v with
  | .r i => (match s[i]? with
    | some (.lst xs) => (match xs[xs.length - 1]? with
      | some y => .ok (.d y) (s.set i (.lst xs.dropLast))
      | none => .bad)
    | _ => .bad)
  | _ => .bad
@[simp] theorem popE_ok (i : Nat) (s : Sto) : (R.ok (.r i) s).popE = match s[i]? with
    | some (.lst xs) => (match xs[xs.length - 1]? with
      | some y => .ok (.d y) (s.set i (.lst xs.dropLast))
      | none => .bad)
    | _ => .bad := rfl
@[simp] theorem ePop_eq (eo : EE) (env : Ev) (st : Sto) : ePop eo env st = (eo env st).popE := rfl
def R.ext2 (r : R Val) (i : Nat) : R Val := r.bind fun u s2 => (match lsOf u s2 with
      | some ys => (match s2[i]? with
        | some (.lst xs) => if xs.length + ys.length ≤ 1000000 then .ok (.d .none) (s2.set i (.lst (xs ++ ys))) else .bad
        | _ => .bad)
      | none => .bad)
def R.ext1 (r : R Val) (ea : EE) (env : Ev) : R Val := r.bind fun v s1 => match v with
  | .r i => (match s1[i]? with
    | some (.lst _) => (ea env s1).ext2 i
    | _ => .bad)
  | _ => .bad
@[simp] theorem ext2_ok (u : Val) (s2 : Sto) (i : Nat) : (R.ok u s2).ext2 i = match lsOf u s2 with
      | some ys => (match s2[i]? with
        | some (.lst xs) => if xs.length + ys.length ≤ 1000000 then .ok (.d .none) (s2.set i (.lst (xs ++ ys))) else .bad
        | _ => .bad)
      | none => .bad := rfl
@[simp] theorem ext1_ok (i : Nat) (s1 : Sto) (ea : EE) (env : Ev) : (R.ok (.r i) s1).ext1 ea env = match s1[i]? with
    | some (.lst _) => (ea env s1).ext2 i
    | _ => .bad := rfl
@[simp] theorem eExtend_eq (eo ea : EE) (env : Ev) (st : Sto) : eExtend eo ea env st = (eo env st).ext1 ea env := rfl
def R.lrg (r : R Val) : R Val := r.bind fun v s => match v with
  | .d (.int n) => if -(2 ^ 60) ≤ n ∧ n ≤ 1000000 then .ok (.d (.list (rngD 0 n.toNat))) s else .bad
  | _ => .bad
@[simp] theorem lrg_ok (n : Int) (s : Sto) : (R.ok (.d (.int n)) s).lrg = if -(2 ^ 60) ≤ n ∧ n ≤ 1000000 then .ok (.d (.list (rngD 0 n.toNat))) s else .bad := rfl
@[simp] theorem eListRg_eq (ea : EE) (env : Ev) (st : Sto) : eListRg ea env st = (ea env st).lrg := rfl
def R.keysI (r : R Val) : R (List D) := r.bind fun v s => match v with
  | .d (.dict kvs) => (match dcD kvs with
    | some (.k ps) => .ok (ps.map fun p => .int p.1) s
    | _ => .bad)
  | _ => .bad
@[simp] theorem iKeys_eq (e : EE) (env : Ev) (st : Sto) : iKeys e env st = (e env st).keysI := rfl
def R.frzE (r : R Val) : R Val := r.bind fun v s => match v with
  | .r j => (match s[j]? with
    | some (.dK ps) => .ok (.d (.dict (ps.map fun p => (.int p.1, p.2)))) (s.set j .gone)
    | some (.dN ps) => .ok (.d (.dict ((.none, .none) :: ps))) (s.set j .gone)
    | _ => .bad)
  | _ => .bad
@[simp] theorem frzE_ok (j : Nat) (s : Sto) : (R.ok (.r j) s).frzE = match s[j]? with
    | some (.dK ps) => .ok (.d (.dict (ps.map fun p => (.int p.1, p.2)))) (s.set j .gone)
    | some (.dN ps) => .ok (.d (.dict ((.none, .none) :: ps))) (s.set j .gone)
    | _ => .bad := rfl
@[simp] theorem eFrz_eq (e : EE) (env : Ev) (st : Sto) : eFrz e env st = (e env st).frzE := rfl
def R.ssE (r : R Val) : R Val := r.bind fun v s => match sqOf v s with
  | some xs => srtD xs s
  | none => .bad
@[simp] theorem ssE_ok (v : Val) (s : Sto) : (R.ok v s).ssE = match sqOf v s with
  | some xs => srtD xs s
  | none => .bad := rfl
@[simp] theorem eSortSet_eq (ea : EE) (env : Ev) (st : Sto) : eSortSet ea env st = (ea env st).ssE := rfl
def R.range2I (r : R (List Val)) : R (List D) := r.bind fun vs s => match vs with
  | [.d (.int i), .d (.int j)] => if -(2 ^ 60) ≤ i ∧ i < 2 ^ 60 ∧ -(2 ^ 60) ≤ j ∧ j < 2 ^ 60 then .ok (rngD i (j - i).toNat) s else .bad
  | _ => .bad
@[simp] theorem range2I_ok (i j : Int) (s : Sto) : (R.ok [.d (.int i), .d (.int j)] s).range2I = if -(2 ^ 60) ≤ i ∧ i < 2 ^ 60 ∧ -(2 ^ 60) ≤ j ∧ j < 2 ^ 60 then .ok (rngD i (j - i).toNat) s else .bad := rfl
@[simp] theorem iRange2_eq (a : EA) (env : Ev) (st : Sto) : iRange2 a env st = (a env st).range2I := rfl
/-! dicts read -/
end Mi
end

section
set_option maxRecDepth 100000
set_option maxHeartbeats 2000000
set_option autoImplicit false
namespace Mi
open PySem PySem.Spec PyProof.Rows L2
/-! ### __init__ of the two classes that have one -/
structure InitOk (cl : Nat → Addr) (P : Program) (w : World) (K : PySem.W.Frag) (mg : Str → Option Value) (base : Heap) (j : Nat) (f : Str) : Prop where
  ok : ∃ (fI : Addr) (fd : FuncData) (ps : List Str), PySem.W.findIn K (.ref (cl j)) "__init__" = some (some (.ref fI)) ∧ PySem.W.typeIn K (.ref fI) = some (.type "function") ∧ FnOk P w K mg base (L2N.CX P w) 1 fI fd ps (spI K f) ∧ Binds K fd ps []
section
variable {cl : Nat → Addr} {X : Cx} {W : WX} {pos p p2 p3 : Pos} {x f : Str} {e : Expr} {ee : EE}
theorem ss_raiseI (j : Nat) (I : InitOk cl X.prog X.w X.K X.mg X.base j f) (hxf : xField j = f) (O : OexC X.K (cl j)) (hf : PySem.W.findIn X.K (.ref (cl j)) f = some none) (hm : X.mg x = some (.ref (cl j))) (hr : Room 2 X.A) (hc : X.calm = true) (tk : L2N.Takes X W) (hg : Gl X x) (he : SE cl X W e ee)
    (hdb : (x == ("__debug__" : Str)) = false := by decide) (hst : starEach [e] X.env = (false, eval e X.env) :: starEach [] X.env := by rfl) (hpl : (backTo p3 (starEach [] X.env)).any (·.1) = false := by rfl) :
    SS cl X W (.Raise (some (.Call (.Name x p) [e] [] p3)) none pos) (sRaise1 j ee) := by
  obtain ⟨fI, fd, ps, h1, h2, h3, h4⟩ := I.ok
  exact ss_raise1 j hxf O hf hm h1 h2 h3 hr h4 hc tk hg he hdb hst hpl
end
/-! ### _law_which -/
abbrev isX (A0 : Addr) (d : Option Addr) (j c : Nat) : EE := eIsX A0 d (isSub j c) (eVar 0)
def mWh (A0 : Addr) (d : Option Addr) (j : Nat) : ES :=
  sSeq (sSet 1 (eLstR (aCons (isX A0 d j 1) (aCons (isX A0 d j 2) (aCons (isX A0 d j 3) (aCons (isX A0 d j 4) aNil))))))
  (sSeq (sExpr (eExtend (eVar 1) (eLst (aCons (isX A0 d j 5) (aCons (isX A0 d j 6) (aCons (isX A0 d j 7) (aCons (isX A0 d j 8) aNil)))))))
  (sSeq (sExpr (eExtend (eVar 1) (eLst (aCons (isX A0 d j 9) (aCons (isX A0 d j 10) (aCons (isX A0 d j 11) (aCons (isX A0 d j 12) aNil)))))))
  (sSeq (sExpr (eExtend (eVar 1) (eLst (aCons (isX A0 d j 13) (aCons (isX A0 d j 14) (aCons (isX A0 d j 15) (aCons (isX A0 d j 16) aNil)))))))
  (sSeq (sExpr (eAppend (eVar 1) (isX A0 d j 17)))
  (sSeq (sIf (kOr (eTst (eOp vNe (eCount (eVar 1) (eC (.bool true))) (eC (.int 1)))) (kNot (eTst (eIsX A0 d true (eVar 0))))) (sRet (eTup (aCons (eC (.str "refused")) (aCons (eNeg (eC (.int 1))) aNil)))) sNx)
  (sRet (eTup (aCons (eC (.str "refused")) (aCons (eIndex (eVar 1) (eC (.bool true))) aNil)))))))))
theorem isX_ok (A0 : Addr) (d : Option Addr) (b : Bool) (v : Option Val) (st : Sto) : eIsX A0 d b (eVar 0) [some (.a A0 d), v] st = .ok (.d (.bool b)) st := by
  simp [eIsX, eVar]
abbrev bL (b : Nat → Bool) : List D := [.bool (b 1), .bool (b 2), .bool (b 3), .bool (b 4), .bool (b 5), .bool (b 6), .bool (b 7), .bool (b 8), .bool (b 9), .bool (b 10), .bool (b 11), .bool (b 12), .bool (b 13), .bool (b 14), .bool (b 15), .bool (b 16), .bool (b 17)]
def whC (b : Nat → Bool) : Nat := (bL b).countP fun y => PyData.eqv y (.bool true)
def whI (b : Nat → Bool) : Option Nat := (bL b).findIdx? fun y => PyData.eqv y (.bool true)
theorem wh_gen (A0 : Addr) (d : Option Addr) (j : Nat) (st : Sto) (h : insOk st.length st = true) (z : Int) (hv : (if whC (isSub j) = 1 then (whI (isSub j)).map (fun i => ((i : Nat) : Int)) else some (-1)) = some z) : runF 2 1 (mWh A0 d j) [.a A0 d] st = .ok (.d (.tuple [.str "refused", .int z])) st := by
  have g1 : ∀ x : MO, (st ++ [x])[st.length]? = some x := fun x => by simp
  have s1 : ∀ x y : MO, (st ++ [x]).set st.length y = st ++ [y] := fun x y => by simp
  have t1 : ∀ x : MO, (st ++ [x]).take st.length = st := fun x => by simp
  have sm : small 4 = true ∧ small 2 = true ∧ small 8 = true ∧ small 12 = true := ⟨rfl, rfl, rfl, rfl⟩
  have fi : fitsIn (bL (isSub j)) (.bool true) = true := rfl
  have cn : ∀ (env : Ev) (T : Sto), env[1]? = some (some (.r st.length)) → T = st ++ [.lst (bL (isSub j))] → eCount (eVar 1) (eC (.bool true)) env T = .ok (.d (.int ((whC (isSub j) : Nat) : Int))) T := fun env T e1 e2 => by
    subst e2
    have ev : eVar 1 env (st ++ [.lst (bL (isSub j))]) = .ok (.r st.length) (st ++ [.lst (bL (isSub j))]) := by unfold eVar; rw [e1]
    unfold eCount
    rw [ev, R.bind_ok]
    simp only [lsOf, g1, eC, R.bind_ok, datOf, fi, if_true]
    rfl
  have ixx : ∀ (i : Nat) (env : Ev) (T : Sto), whI (isSub j) = some i → env[1]? = some (some (.r st.length)) → T = st ++ [.lst (bL (isSub j))] → eIndex (eVar 1) (eC (.bool true)) env T = .ok (.d (.int (i : Nat))) T := fun i env T hi e1 e2 => by
    subst e2
    have ev : eVar 1 env (st ++ [.lst (bL (isSub j))]) = .ok (.r st.length) (st ++ [.lst (bL (isSub j))]) := by unfold eVar; rw [e1]
    unfold whI at hi
    have s17 : small (bL (isSub j)).length = true := rfl
    unfold eIndex
    rw [ev, R.bind_ok]
    simp only [lsOf, g1, eC, R.bind_ok, datOf, fi, s17, and_self, if_true, hi]
  have ne : ∀ (n : Nat) (T : Sto), vNe (.d (.int n)) (.d (.int 1)) T = some (.d (.bool (!decide (n = 1))), T) := fun n T => by
    have : PyData.eqv (.int (n : Nat)) (.int 1) = decide (n = 1) := by
      show decide (((n : Nat) : Int) = 1) = _
      rw [decide_eq_decide]; omega
    simp only [vNe, datOf, this]; rfl
  have fz : ∀ (x : D) (T : List D), fin st.length (.d x) (st ++ [.lst T]) = .ok (.d x) st := fun x T => by unfold fin; rw [t1, if_pos h]
  rw [runF_eq 2 1 (mWh A0 d j) [.a A0 d] st rfl]
  show R.fin0 (mWh A0 d j [some (.a A0 d), none] st) st.length = _
  have ix : ∀ c v T, eIsX A0 d c (eVar 0) [some (.a A0 d), v] T = .ok (.d (.bool c)) T := fun c v T => isX_ok A0 d c v T
  simp only [mWh, isX, sSeq_eq, sSet_eq, eLstR_eq, aCons_eq, aNil_eq, ix, cons1_ok, cons2_ok, lstR_ok, toDs, toD, List.length_cons, List.length_nil, Nat.reduceAdd, sm, if_true, setS_ok, List.set_cons_succ, List.set_cons_zero, andS_nx, sExpr_eq, eExtend_eq, eVar_eq, List.getElem?_cons_succ, List.getElem?_cons_zero, getv_ok, ext1_ok, g1, eLst_eq, lstD_ok, ext2_ok, lsOf, List.cons_append, List.nil_append, s1, dropS_ok, Nat.reduceLeDiff, eAppend_eq, app1_ok, app2_ok, sIf_eq, kOr_eq, eTst_eq, eOp_eq, Nat.reduceLT]
  rw [cn _ _ rfl rfl]
  simp only [op1_ok, eC_eq, op2_ok, ne, R.of_some, tst_ok]
  by_cases hc : whC (isSub j) = 1
  · rw [if_pos hc] at hv
    cases hi : whI (isSub j) with
    | none => rw [hi] at hv; cases hv
    | some i =>
      rw [hi] at hv
      cases hv
      simp only [hc, decide_true, Bool.not_true, kor_false, kNot_eq, eTst_eq, ix, tst_ok, knot_ok, ifS_false, sNx_eq, andS_nx, sRet_eq, eTup_eq, aCons_eq, aNil_eq, eC_eq, cons1_ok]
      rw [ixx i _ _ hi rfl rfl]
      simp only [cons1_ok, aNil_eq, cons2_ok, tup_ok, toDs, toD, List.length_cons, List.length_nil, Nat.reduceAdd, sm, if_true, retS_ok, fin0_rt, fz]
  · rw [if_neg hc] at hv
    cases hv
    simp only [hc, decide_false, Bool.not_false, kor_true, ifS_true, sRet_eq, eTup_eq, aCons_eq, aNil_eq, eC_eq, cons1_ok, eNeg_eq, negE_ok, cons2_ok, tup_ok, toDs, toD, List.length_cons, List.length_nil, Nat.reduceAdd, sm, if_true, retS_ok, andS_rt, fin0_rt, fz]
theorem wh_run (A0 : Addr) (d : Option Addr) (j : Nat) (hj : j < 18) (st : Sto) (h : insOk st.length st = true) : runF 2 1 (mWh A0 d j) [.a A0 d] st = .ok (.d (whichD j)) st := by
  refine wh_gen A0 d j st h _ ?_
  have : ∀ j < 18, (if whC (isSub j) = 1 then (whI (isSub j)).map (fun i => ((i : Nat) : Int)) else some (-1)) = some (if j = 0 then -1 else (j : Int) - 1) := by decide +kernel
  exact this j hj
/-- the def, as a clause may call it -/
theorem wh_of {P : Program} {w : World} {K : PySem.W.Frag} {mg : Str → Option Value} {base : Heap} {x qual : Str} {params : Arguments} {body : List Stmt} {scope : Scope} {dvs : List V} {kws : List (Str × V)} {fa : Addr} {fd : FuncData} {cl : Nat → Addr} {y : Str}
    (F : FunD K x qual params body scope dvs kws fa fd) (S : FnScope ["e", "own"] ["e"] scope) (hm : mg y = some (.ref fa)) (hb : Binds K fd ["e"] [])
    (h : ∀ (cdv : Value) (A : Around) (outer : List Env) (s : Shared) (H : Hp) (E : XK) (a : Addr) (oe : Obj) (d : Option Addr) (j : Nat), j ∈ List.range 18 → L2N.Zn (.ref (cl j)) d oe → (∃ vs, oe.data = .fields vs) → L2H.RoomH 0 (L2H.cxH (L2N.CX P w) P w K mg base ["e", "own"] qual scope fa cdv A outer s H E (a, oe)).A →
      SSs cl (L2H.cxH (L2N.CX P w) P w K mg base ["e", "own"] qual scope fa cdv A outer s H E (a, oe)) (fun cls d _ H' => E cls d H') body (mWh a d j)) : WhOk (List.range 18) cl P w K mg base 1 y := by
  obtain ⟨oc, od, dV, kV, doc, pm, an, cdv, ct, osl, rfl, lk, hcd, _, _⟩ := F.ex
  refine ⟨fa, _, hm, F.kp, hb, fun a oe d j hj z zf => ⟨runF 2 1 (mWh a d j), fun st hs => wh_run a d j (List.mem_range.mp hj) st hs, fnX_of lk hcd S (fun vs H Q E h => ?_) fun A outer s H vs Q E hot hr hsp => ⟨_, h cdv A outer s H E a oe d j hj z zf hr, fn_sound_aux (N := ["e", "own"]) (ps := ["e"]) (by decide) hsp⟩⟩⟩
  obtain ⟨G, m, st, as, rl, ra, hl, p⟩ := h
  rw [ra.length, hl]; rfl
/-- checks of the two __init__ -/
def iniB (K : PySem.W.Frag) (j : Nat) : Bool := decide (PySem.W.findIn K (.ref (clA K j)) "__init__" = some (some (.ref (He.fAd K (xName j, some "__init__"))))) && decide (PySem.W.typeIn K (.ref (He.fAd K (xName j, some "__init__"))) = some (.type "function"))
theorem ini_of {P : Program} {w : World} {K : PySem.W.Frag} {mg : Str → Option Value} {base : Heap} {x qual f : Str} {params : Arguments} {body : List Stmt} {scope : Scope} {dvs : List V} {kws : List (Str × V)} {fd : FuncData} {j : Nat} {p1 p2 p3 p4 : Pos}
    (c : iniB K j = true) (F : FunD K x qual params body scope dvs kws (He.fAd K (xName j, some "__init__")) fd) (hbd : body = [.Assign [.Attribute (.Name "self" p1) f p2] (.Name f p3) p4]) (S : FnScope [("self" : Str), f] [("self" : Str), f] scope) (hv : (f == ("__debug__" : Str)) = false) (hc : (f == ("__classdict__" : Str)) = false) (l1 : scope.names.lookup ("self" : Str) = some .local) (l2 : scope.names.lookup f = some .local)
    (hsw : ∀ (e : Env), swapsWith (.Name f p3) (some (.Attribute (.Name "self" p1) f p2)) p4.line e = pure false) (hb : Binds K fd [("self" : Str), f] []) : InitOk (clA K) P w K mg base j f := by
  subst hbd
  unfold iniB at c
  simp only [Bool.and_eq_true, decide_eq_true_eq] at c
  exact ⟨_, fd, _, c.1, c.2, fn_init (k := 0) F S hv hc l1 l2 hsw, hb⟩
/-! ### step equations -/
def R.rai (r : R Val) (env : Ev) (j : Nat) : R Fl := r.bindS env fun v s => match v with
  | .d x => .ok (.ex ⟨j, some x⟩ env) s
  | _ => .bad
@[simp] theorem rai_ok (x : D) (s : Sto) (env : Ev) (j : Nat) : (R.ok (.d x) s).rai env j = .ok (.ex ⟨j, some x⟩ env) s := rfl
@[simp] theorem sRaise1_eq (j : Nat) (ee : EE) (env : Ev) (st : Sto) : sRaise1 j ee env st = (ee env st).rai env j := rfl
@[simp] theorem sRaise0_eq (j : Nat) (env : Ev) (st : Sto) : sRaise0 j env st = .ok (.ex ⟨j, none⟩ env) st := rfl
def R.tryS (r : R Fl) (X8 : List Nat) (i : Nat) (hs : List (Nat × HV)) : R Fl := match r with
  | .ok (.ex e env1) s => if e.cls ∈ X8 ∧ i < env1.length then (match hPick hs e s with
    | some (some x) => .ok (.rt (.d x)) s
    | some none => .bad
    | none => .ok (.ex e env1) s) else .bad
  | r => r
@[simp] theorem tryS_rt (v : Val) (s : Sto) (X8 : List Nat) (i : Nat) (hs : List (Nat × HV)) : (R.ok (.rt v) s).tryS X8 i hs = .ok (.rt v) s := rfl
@[simp] theorem tryS_nx (v : Ev) (s : Sto) (X8 : List Nat) (i : Nat) (hs : List (Nat × HV)) : (R.ok (.nx v) s).tryS X8 i hs = .ok (.nx v) s := rfl
theorem tryS_ex {e : Exn} {env : Ev} {s : Sto} {X8 : List Nat} {i : Nat} {hs : List (Nat × HV)} {x : D} (h1 : e.cls ∈ X8) (h2 : i < env.length) (h3 : hPick hs e s = some (some x)) : (R.ok (.ex e env) s).tryS X8 i hs = .ok (.rt (.d x)) s := by
  show (if e.cls ∈ X8 ∧ i < env.length then _ else _) = _
  rw [if_pos ⟨h1, h2⟩, h3]
@[simp] theorem sTry_eq (X8 : List Nat) (i : Nat) (b : ES) (hs : List (Nat × HV)) (env : Ev) (st : Sto) : sTry X8 i b hs env st = (b env st).tryS X8 i hs := by
  unfold sTry R.tryS
  cases b env st with
  | ok f s => cases f <;> rfl
  | exc e s => rfl
  | bad => rfl
theorem fin0_ex {e : Exn} {env : Ev} {s : Sto} {n : Nat} (h : insOk n (s.take n) = true) : (R.ok (.ex e env) s).fin0 n = .exc e (s.take n) := if_pos h
end Mi
end

section
set_option maxRecDepth 100000
set_option maxHeartbeats 2000000
set_option autoImplicit false
namespace Mi
open PySem PySem.Spec PyProof.Rows L2
/-! ### list(d), d a dict with keys that are tuples -/
section
variable {cl : Nat → Addr} {X : Cx}
/-! ### sorted of pairs of ints that rise already -/
end
end Mi
end

section
set_option maxRecDepth 100000
set_option maxHeartbeats 2000000
set_option autoImplicit false
namespace Mi
open PySem PySem.Spec PyProof.Rows L2
/-! ### one address less -/
def del (H : Hp) (a : Addr) : Hp := fun b => if b = a then none else H b
theorem del_same {H : Hp} {a : Addr} : del H a a = none := by unfold del; rw [if_pos rfl]
theorem del_ne {H : Hp} {a b : Addr} (h : b ≠ a) : del H a b = H b := by unfold del; rw [if_neg h]
theorem del_some {H : Hp} {a b : Addr} {o : HO} (h : del H a b = some o) : b ≠ a ∧ H b = some o := by
  by_cases e : b = a
  · subst e; rw [del_same] at h; cases h
  · rw [del_ne e] at h; exact ⟨e, h⟩
theorem del_none {H : Hp} {a b : Addr} (h : H b = none) : del H a b = none := by
  by_cases e : b = a
  · subst e; exact del_same
  · rw [del_ne e]; exact h
abbrev loc (o : Obj) : HO := .frz o (.own 0)
section
variable {P : Program} {w : World} {H : Hp} {h : Heap} {a : Addr} {o : Obj}
end
section
variable {fs : List Addr} {H H' : Hp} {h h' : Heap} {a : Addr} {o : Obj}
end
section
variable {outer : List Env} {P : Program} {w : World} {H : Hp} {s s' : Shared} {Q Q2 : VK} {u : Value} {a : Addr} {o : Obj}
end
/-! ### what stands in the frozen part without it -/
section
variable {C : RC} {G : Hp} {a : Addr} {o : Obj}
theorem Rd.del {u : HO} (ha : G a = some (loc o)) (hu : ∀ z, u ≠ .own z) (hu2 : ∀ ob z, u ≠ .frz ob (.own z)) {b : Addr} (h : Rd G b u) : Rd (del G a) b u := by
  rcases h with h | ⟨ob, h⟩
  · exact .inl (by rw [del_ne (fun e => by rw [e, ha] at h; cases h; exact hu2 _ _ rfl)]; exact h)
  · exact .inr ⟨ob, by rw [del_ne (fun e => by rw [e, ha] at h; cases h; exact hu _ rfl)]; exact h⟩
theorem SqT.del {K : PySem.W.Frag} (ha : G a = some (loc o)) {b : Addr} {xs : List V} (h : SqT K G b xs) : SqT K (Mi.del G a) b xs := by
  rcases h with h | h
  · exact .inl (Rd.del ha (fun _ e => by cases e) (fun _ _ e => by cases e) h)
  · exact .inr h
theorem SqL.del {K : PySem.W.Frag} (ha : G a = some (loc o)) {b : Addr} {xs : List V} (h : SqL K G b xs) : SqL K (Mi.del G a) b xs := by
  rcases h with h | h
  · exact .inl (Rd.del ha (fun _ e => by cases e) (fun _ _ e => by cases e) h)
  · exact .inr h
mutual
theorem Rep.del (ha : G a = some (loc o)) {d : D} {v : V} (h : Rep C G v d) : Rep C (Mi.del G a) v d := match h with
  | .non => .non
  | .bl b => .bl b
  | .int b => .int b
  | .str b => .str b
  | .lst q r => .lst (by rw [del_ne (fun e => by rw [e, ha] at q; cases q)]; exact q) (RepAll.del ha r)
  | .tup q r => .tup (SqT.del ha q) (RepAll.del ha r)
  | .dK q e r => .dK (by rw [del_ne (fun e => by rw [e, ha] at q; cases q)]; exact q) e (RepAll.del ha r)
  | .dN q e r => .dN (by rw [del_ne (fun e => by rw [e, ha] at q; unfold DictN at q; cases q)]; exact q) e (RepN.del ha r)
theorem RepN.del (ha : G a = some (loc o)) {ps : List (D × D)} {xs : List (NestedKey × Addr × Value)} (h : RepN C G ps xs) : RepN C (Mi.del G a) ps xs := match h with
  | .nil => .nil
  | .cons z b c d e r => .cons z b (Rep.del ha c) d (Rep.del ha e) (RepN.del ha r)
theorem RepAll.del (ha : G a = some (loc o)) {ds : List D} {vs : List V} (h : RepAll C G vs ds) : RepAll C (Mi.del G a) vs ds := match h with
  | .nil => .nil
  | .cons q r => .cons (Rep.del ha q) (RepAll.del ha r)
end
def notC : Val → Bool
  | .c _ _ => false
  | _ => true
theorem RepV.del {m : List Addr} (ha : G a = some (loc o)) {v : V} {x : Val} (h : RepV C G m v x) (n : notC x = true) : RepV C (Mi.del G a) m v x := by
  cases h with
  | d h => exact .d (Rep.del ha h)
  | r h => exact .r h
  | s h => exact .s (SqL.del ha h)
  | a h => exact .a fun q hq => let ⟨fs, z⟩ := h q hq; ⟨fs, by rw [del_ne (fun e => by rw [e, ha] at z; cases z)]; exact z⟩
  | c _ _ => cases n
  | f => exact .f
theorem RepVs.del {m : List Addr} (ha : G a = some (loc o)) : ∀ {vs : List V} {xs : List Val}, RepVs C G m vs xs → (∀ x ∈ xs, notC x = true) → RepVs C (Mi.del G a) m vs xs
  | _, _, .nil, _ => .nil
  | _, _, .cons h r, k => .cons (h.del ha (k _ List.mem_cons_self)) (RepVs.del ha r fun x hx => k x (List.mem_cons_of_mem _ hx))
theorem Rl.del {m : List Addr} {H : Hp} {st : Sto} (r : Rl C G m H st) (ha : G a = some (loc o)) (ok : insOk st.length st = true) : Rl C (Mi.del G a) m (Mi.del H a) st := by
  have am : a ∉ m := fun z => r.clo a z _ _ ha
  have hH := r.sub _ _ ha
  have ne : ∀ b ∈ m, b ≠ a := fun b hb e => am (e ▸ hb)
  refine ⟨fun b u e => ?_, r.len, r.nd, fun b hb => by rw [del_ne (ne b hb)]; exact r.liv b hb, fun i b u e1 e2 e3 => del_none (r.out i b u e1 e2 e3), fun i u b e1 e2 => ?_, fun j hj => ?_, fun b hb ob z e => r.clo b hb ob z (del_some e).2⟩
  · obtain ⟨e1, e2⟩ := del_some e
    rw [del_ne e1]; exact r.sub _ _ e2
  · have bm := ne b (List.mem_of_getElem? e2)
    have q := r.obj i u b e1 e2
    cases u with
    | lst xs => obtain ⟨vs, h1, h2⟩ := q; exact ⟨vs, by rw [del_ne bm]; exact h1, RepAll.del ha h2⟩
    | dK _ => obtain ⟨vs, h1, h2⟩ := q; exact ⟨vs, by rw [del_ne bm]; exact h1, RepAll.del ha h2⟩
    | dN _ => obtain ⟨vs, h1, h0, h2⟩ := q; exact ⟨vs, by rw [del_ne bm]; exact h1, h0, RepN.del ha h2⟩
    | dL _ => obtain ⟨od, vs, h1, h0, h2⟩ := q; exact ⟨od, vs, by rw [del_ne bm]; exact h1, h0, RepN.del ha h2⟩
    | gone => trivial
    | ins c fs =>
      obtain ⟨dx, vs', h1, h2, h3⟩ := q
      refine ⟨dx, vs', by rw [del_ne bm]; exact h1, h2, RepVs.del ha h3 fun x hx => ?_⟩
      obtain ⟨y, hy, e⟩ := List.mem_map.mp hx
      have := insOk_c ok e1 y hy
      rw [← e]
      cases hv : y.2 with
      | c j z => exact absurd hv (this j z)
      | _ => rfl
  · obtain ⟨ps, z1, z2, z3, z4, z5⟩ := r.tab j hj
    refine ⟨ps, by rw [del_ne (fun e => by rw [e, hH] at z1; cases z1)]; exact z1, z2, del_none z3, z4, fun pos cv hc => ?_⟩
    obtain ⟨c, y1, y2⟩ := z5 pos cv hc
    exact ⟨c, y1, by rw [del_ne (fun e => by rw [e, ha] at y2; unfold LamX.CodeO at y2; cases y2)]; exact y2⟩
end
/-! ### a lambda's promise -/
end Mi
end

section
set_option maxRecDepth 100000
set_option maxHeartbeats 2000000
set_option autoImplicit false
namespace Mi
open PySem PySem.Spec PyProof.Rows L2
/-! ### a call of a name that holds a lambda -/
def eCallV (i : Nat) (LM : Nat → FN) (er : EA) : EE := fun env st => match env[i]? with
  | some (some (.c j x)) => (er env st).bind fun vs s => noX (LM j (x :: vs) s)
  | _ => .bad
section
variable {cl : Nat → Addr} {X : Cx} {W : WX} {pos p : Pos} {e : Expr} {es : List Expr} {er : EA} {a : Str} {k i : Nat} {LM : Nat → FN}
end
/-! ### arguments with a lambda among them -/
abbrev TL := L2.St → Hp → (List V → Addr → Obj → Hp → Prop) → Prop
section
variable {X : Cx} {e : Expr} {es post : List Expr} {te : TE} {t : TL} {tp : TA} {params : Arguments} {body : Expr} {scope : Scope} {lpos : Pos} {c P : Addr}
end
inductive RepL (C : RC) (G : Hp) (m : List Addr) (f : Addr) (j : Nat) (x : Val) : List V → List Val → Prop
  | here {ws : List V} {bs : List Val} : RepVs C G m ws bs → RepL C G m f j x (.ref f :: ws) (.c j x :: bs)
  | cons {v : V} {a : Val} {vs : List V} {as : List Val} : RepV C G m v a → RepL C G m f j x vs as → RepL C G m f j x (v :: vs) (a :: as)
theorem RepL.clo {C : RC} {G G' : Hp} {m m' : List Addr} {H H' : Hp} {f : Addr} {j : Nat} {x : Val} {v0 : V} (e : Ext G m H G' m' H') (cg : CloG C G' f j v0) (rx : RepV C G' m' v0 x) : ∀ {vs : List V} {as : List Val}, RepL C G m f j x vs as → RepVs C G' m' vs as
  | _, _, .here r => .cons (.c cg rx) (r.ext e)
  | _, _, .cons h r => .cons (h.ext e) (RepL.clo e cg rx r)
def LamMade (X : Cx) (L : Lam) (of : Obj) (code : Addr) : Prop := ∃ pm ctv, of = PySem.W.kla_obj "<lambda>" (X.env.qual ++ "<lambda>") L.params L.body L.scope (cloFrom X.env.cells L.scope.names []) pm code ctv
def PostL (C : RC) (X : Cx) (L : Lam) (j i : Nat) (env : Ev) (G : Hp) (m : List Addr) (H : Hp) (Q : List V → Addr → Obj → Hp → Prop) (W : XW) : R (List Val) → Prop
  | .ok as st => ∀ vs f of code x H' G' m', Ext G m H G' m' H' → Rl C G' m' H' st → env[i]? = some (some x) → RepL C G' m' f j x vs as → LamMade X L of code → G' code = some (LamX.CodeO code (tabQ (lamT j))) → Q vs f of H'
  | .exc e st => ∀ cls d H' G' m', Ext G m H G' m' H' → Rl C G' m' H' st → ExcR C G' H' e cls d → W cls d H'
  | .bad => False
theorem PostL.ext {C : RC} {X : Cx} {L : Lam} {j i : Nat} {env : Ev} {G G1 : Hp} {m m1 : List Addr} {H H1 : Hp} {Q : List V → Addr → Obj → Hp → Prop} {W : XW} (e : Ext G m H G1 m1 H1) {x : R (List Val)} (h : PostL C X L j i env G m H Q W x) : PostL C X L j i env G1 m1 H1 Q W x := by
  cases x with
  | ok v st => exact fun vs f of code x H2 G2 m2 e2 => h vs f of code x H2 G2 m2 (e.trans e2)
  | exc v st => exact fun cls d H2 G2 m2 e2 => h cls d H2 G2 m2 (e.trans e2)
  | bad => exact h
def aLam (j i : Nat) (ep : EA) : EA := fun env st => match env[i]? with
  | some (some x) => (ep env st).bind fun ws s => .ok (.c j x :: ws) s
  | _ => .bad
section
variable {cl : Nat → Addr} {X : Cx} {W : WX} {L : Lam} {j i n k : Nat} {a e : Expr} {es post : List Expr} {ea : EE} {er ep : EA} {params : Arguments} {body : Expr} {scope : Scope} {lpos pos p : Pos}
def eLam (n : Nat) (f : FN) (ea : EA) : EE := fun env st => (ea env st).bind fun vs s => if vs.length = n then (match f vs s with
  | .ok (.d y) s' => if insOk s'.length s' = true then .ok (.d y) s' else .bad
  | _ => .bad) else .bad
end
end Mi
end

section
set_option maxRecDepth 100000
set_option maxHeartbeats 2000000
set_option autoImplicit false
namespace Mi
open PySem PySem.Spec PyProof.Rows L2
/-! ### the keys of a locked dict, tuples -/
section
variable {P : Program} {w : World} {K : PySem.W.Frag} {tg : Expr} {d : Addr} {o : Obj} {es : Array DictEntry} {ep : Nat}
end
/-- for .. in d, [.. for .. in d]: d locked -/
def iKeysL (e : EE) : EI := fun env st => (e env st).bind fun v s => match v with
  | .r j => (match s[j]? with
    | some (.dL ps) => .ok (ps.map (·.1)) s
    | _ => .bad)
  | _ => .bad
/-! ### locked while a statement runs -/
section
variable {C : RC} {G : Hp} {a : Addr} {o : Obj} {φ : Heap → Prop}
end
def sLock (i : Nat) (es : ES) : ES := fun env st => match env[i]? with
  | some (some (.r j)) => (match st[j]? with
    | some (.dN ps) => (match es env (st.set j (.dL ps)) with
      | .ok (.nx env') s => (match s[j]? with
        | some (.dL ps') => .ok (.nx env') (s.set j (.dN ps'))
        | _ => .bad)
      | _ => .bad)
    | _ => .bad)
  | _ => .bad
/-! ### d.pop(k), k a tuple that is there -/
def nDel (ps : List (D × D)) (k : NestedKey) : List (D × D) := ps.filter fun p => decide (nk p.1 ≠ some k)
def popN1 (j : Nat) (y : Val) (s2 : Sto) : R Val := match y, s2[j]? with
  | .d (.tuple xs), some (.dN ps) => (match nk (.tuple xs) with
    | some k => if k.depth ≤ 8 ∧ ps.length ≤ 1000000 then (match nFind ps k with
      | some x => .ok (.d x) (s2.set j (.dN (nDel ps k)))
      | none => .bad) else .bad
    | none => .bad)
  | _, _ => .bad
def ePopN (eo ei : EE) : EE := fun env st => (eo env st).bind fun v s1 => match v with
  | .r j => (match s1[j]? with
    | some (.dN _) => (ei env s1).bind fun y s2 => popN1 j y s2
    | _ => .bad)
  | _ => .bad
section
variable {cl : Nat → Addr} {X : Cx} {W : WX} {pos apos : Pos} {o a : Expr} {ea eb : EE}
end
end Mi
end

section
set_option maxRecDepth 100000
set_option maxHeartbeats 2000000
set_option autoImplicit false
namespace Mi
open PySem PySem.Spec L2 PyProof.Rows
/-! ### sorted({e for t in a if ..}), e an int -/
section
variable {X : Cx}
end
def eSortSc1 (vs : List Nat) (tg : Tg) (ei : EI) (tt : ET) (ee : EE) : EE := fun env st => (ei env st).bind fun xs s1 => (compL tg tt ee (wipeE env vs) xs s1).bind srtD
section
variable {cl : Nat → Addr} {X : Cx} {W : WX} {elt t a : Expr} {ifs : List Expr} {scope : Scope} {own : List (Str × Nat)} {pos p q : Pos} {tg : Tg} {ei : EI} {tt : ET} {ee : EE}
end
/-! ### name = {k: v for ..}, k a tuple, the name no cell -/
section
variable {cl : Nat → Addr} {X : Cx} {W : WX} {pos : Pos} {t a kx vx : Expr} {ifs : List Expr} {ei : EI} {tg : Tg} {tt : ET} {ek ee : EE} {scope : Scope} {own : List (Str × Nat)}
end
/-! ### a, b = a list -/
def sSetL (is : List Nat) (e : EE) : ES := fun env st => (e env st).bindS env fun v s => match v with
  | .d (.list xs) => if xs.length = is.length then .ok (.nx (setAll is xs env)) s else .bad
  | _ => .bad
end Mi
end

section
set_option maxRecDepth 100000
set_option autoImplicit false
namespace Mi
open PySem PySem.Spec L2
/-! ### step equations: lambdas, locked dicts -/
def R.cv (r : R (List Val)) (x : Option (Option Val)) (LM : Nat → FN) : R Val := match x with
  | some (some (.c j x)) => r.bind fun vs s => noX (LM j (x :: vs) s)
  | _ => .bad
@[simp] theorem eCallV_eq (i : Nat) (LM : Nat → FN) (er : EA) (env : Ev) (st : Sto) : eCallV i LM er env st = (er env st).cv env[i]? LM := by
  unfold eCallV R.cv
  cases env[i]? with
  | none => rfl
  | some v => cases v with
    | none => rfl
    | some v => cases v <;> rfl
@[simp] theorem cv_ok (vs : List Val) (s : Sto) (j : Nat) (x : Val) (LM : Nat → FN) : (R.ok vs s).cv (some (some (.c j x))) LM = noX (LM j (x :: vs) s) := rfl
def R.al (r : R (List Val)) (x : Option (Option Val)) (j : Nat) : R (List Val) := match x with
  | some (some x) => r.bind fun ws s => .ok (.c j x :: ws) s
  | _ => .bad
@[simp] theorem aLam_eq (j i : Nat) (ep : EA) (env : Ev) (st : Sto) : aLam j i ep env st = (ep env st).al env[i]? j := by
  unfold aLam R.al
  cases env[i]? with
  | none => rfl
  | some v => cases v <;> rfl
@[simp] theorem al_ok (ws : List Val) (s : Sto) (x : Val) (j : Nat) : (R.ok ws s).al (some (some x)) j = .ok (.c j x :: ws) s := rfl
def R.lamR (r : R Val) : R Val := match r with
  | .ok (.d y) s' => if insOk s'.length s' = true then .ok (.d y) s' else .bad
  | _ => .bad
def R.lm (r : R (List Val)) (n : Nat) (f : FN) : R Val := r.bind fun vs s => if vs.length = n then (f vs s).lamR else .bad
@[simp] theorem eLam_eq (n : Nat) (f : FN) (ea : EA) (env : Ev) (st : Sto) : eLam n f ea env st = (ea env st).lm n f := rfl
@[simp] theorem lm_ok' (vs : List Val) (s : Sto) (n : Nat) (f : FN) : (R.ok vs s).lm n f = if vs.length = n then (f vs s).lamR else .bad := rfl
def lockG (x : Option (Option Val)) (es : ES) (env : Ev) (st : Sto) : R Fl := match x with
  | some (some (.r j)) => (match st[j]? with
    | some (.dN ps) => (match es env (st.set j (.dL ps)) with
      | .ok (.nx env') s => (match s[j]? with
        | some (.dL ps') => .ok (.nx env') (s.set j (.dN ps'))
        | _ => .bad)
      | _ => .bad)
    | _ => .bad)
  | _ => .bad
@[simp] theorem sLock_eq (i : Nat) (es : ES) (env : Ev) (st : Sto) : sLock i es env st = lockG env[i]? es env st := by
  unfold sLock lockG
  cases env[i]? with
  | none => rfl
  | some v => cases v with
    | none => rfl
    | some v => cases v <;> rfl
def R.popN (r : R Val) (ei : EE) (env : Ev) : R Val := r.bind fun v s1 => match v with
  | .r j => (match s1[j]? with
    | some (.dN _) => (ei env s1).bind fun y s2 => popN1 j y s2
    | _ => .bad)
  | _ => .bad
@[simp] theorem ePopN_eq (eo ei : EE) (env : Ev) (st : Sto) : ePopN eo ei env st = (eo env st).popN ei env := rfl
def R.keysL (r : R Val) : R (List D) := r.bind fun v s => match v with
  | .r j => (match s[j]? with
    | some (.dL ps) => .ok (ps.map (·.1)) s
    | _ => .bad)
  | _ => .bad
@[simp] theorem iKeysL_eq (e : EE) (env : Ev) (st : Sto) : iKeysL e env st = (e env st).keysL := rfl
def R.srt1 (r : R (List D)) (vs : List Nat) (tg : Tg) (tt : ET) (ee : EE) (env : Ev) : R Val := r.bind fun xs s1 => (compL tg tt ee (wipeE env vs) xs s1).bind srtD
@[simp] theorem eSortSc1_eq (vs : List Nat) (tg : Tg) (ei : EI) (tt : ET) (ee : EE) (env : Ev) (st : Sto) : eSortSc1 vs tg ei tt ee env st = (ei env st).srt1 vs tg tt ee env := rfl
@[simp] theorem srt1_ok (xs : List D) (s : Sto) (vs : List Nat) (tg : Tg) (tt : ET) (ee : EE) (env : Ev) : (R.ok xs s).srt1 vs tg tt ee env = (compL tg tt ee (wipeE env vs) xs s).bind srtD := rfl
def R.setLS (r : R Val) (env : Ev) (is : List Nat) : R Fl := r.bindS env fun v s => match v with
  | .d (.list xs) => if xs.length = is.length then .ok (.nx (setAll is xs env)) s else .bad
  | _ => .bad
@[simp] theorem sSetL_eq (is : List Nat) (e : EE) (env : Ev) (st : Sto) : sSetL is e env st = (e env st).setLS env is := rfl
@[simp] theorem setLS_ok (xs : List D) (s : Sto) (env : Ev) (is : List Nat) : (R.ok (.d (.list xs)) s).setLS env is = if xs.length = is.length then .ok (.nx (setAll is xs env)) s else .bad := rfl
def R.lcRE (r : R (List D)) (vs : List Nat) (tg : Tg) (tt : ET) (ee : EE) (env : Ev) : R Val := r.bind fun xs s => if small xs.length = true then (compL tg tt ee (wipeE env vs) xs s).bind fun ds s2 => .ok (.r s2.length) (s2 ++ [.lst ds]) else .bad
@[simp] theorem eLcR_eq (vs : List Nat) (tg : Tg) (ei : EI) (tt : ET) (ee : EE) (env : Ev) (st : Sto) : eLcR vs tg ei tt ee env st = (ei env st).lcRE vs tg tt ee env := rfl
@[simp] theorem lcRE_ok (xs : List D) (s : Sto) (vs : List Nat) (tg : Tg) (tt : ET) (ee : EE) (env : Ev) : (R.ok xs s).lcRE vs tg tt ee env = if small xs.length = true then (compL tg tt ee (wipeE env vs) xs s).bind fun ds s2 => .ok (.r s2.length) (s2 ++ [.lst ds]) else .bad := rfl
/-- an expression that is never reached -/
def eNever : EE := fun _ _ => .bad
@[simp] theorem eNever_eq (env : Ev) (st : Sto) : eNever env st = .bad := rfl
end Mi
end

section
set_option maxRecDepth 100000
set_option autoImplicit false
namespace Mi
open PySem PySem.Spec L2
section
variable {cl : Nat → Addr} {X : Cx} {W : WX} {pos p apos q : Pos} {t a b o : Expr} {ea eb : EE}
/-! ### xs.pop(i) -/
def popI1 (i : Nat) (u : Val) (s2 : Sto) : R Val := match u with
  | .d (.int k) => (match s2[i]? with
    | some (.lst xs) => if 0 ≤ k ∧ k < (xs.length : Int) ∧ xs.length ≤ 1000000 then (match xs[k.toNat]? with
      | some y => .ok (.d y) (s2.set i (.lst (xs.eraseIdx k.toNat)))
      | none => .bad) else .bad
    | _ => .bad)
  | _ => .bad
def ePopI (eo ea : EE) : EE := fun env st => (eo env st).bind fun v s1 => match v with
  | .r i => (match s1[i]? with
    | some (.lst _) => (ea env s1).bind fun u s2 => popI1 i u s2
    | _ => .bad)
  | _ => .bad
theorem RepAll.eraseIdx {C : RC} {G : Hp} : ∀ {vs : List V} {ds : List D} (k : Nat), RepAll C G vs ds → RepAll C G (vs.eraseIdx k) (ds.eraseIdx k)
  | _, _, _, .nil => by simpa using RepAll.nil
  | _, _, 0, .cons a b => by simpa using b
  | _, _, k + 1, .cons a b => by simpa using RepAll.cons a (RepAll.eraseIdx k b)
def R.popI (r : R Val) (ea : EE) (env : Ev) : R Val := r.bind fun v s1 => match v with
  | .r i => (match s1[i]? with
    | some (.lst _) => (ea env s1).bind fun u s2 => popI1 i u s2
    | _ => .bad)
  | _ => .bad
@[simp] theorem ePopI_eq (eo ea : EE) (env : Ev) (st : Sto) : ePopI eo ea env st = (eo env st).popI ea env := rfl
/-! ### list(range(n)), to be changed -/
def eListRgR (ea : EE) : EE := fun env st => (ea env st).bind fun v s => match v with
  | .d (.int n) => if -(2 ^ 60) ≤ n ∧ n ≤ 1000000 then .ok (.r s.length) (s ++ [.lst (rngD 0 n.toNat)]) else .bad
  | _ => .bad
def R.lrgR (r : R Val) : R Val := r.bind fun v s => match v with
  | .d (.int n) => if -(2 ^ 60) ≤ n ∧ n ≤ 1000000 then .ok (.r s.length) (s ++ [.lst (rngD 0 n.toNat)]) else .bad
  | _ => .bad
@[simp] theorem eListRgR_eq (ea : EE) (env : Ev) (st : Sto) : eListRgR ea env st = (ea env st).lrgR := rfl
@[simp] theorem lrgR_ok (n : Int) (s : Sto) : (R.ok (.d (.int n)) s).lrgR = if -(2 ^ 60) ≤ n ∧ n ≤ 1000000 then .ok (.r s.length) (s ++ [.lst (rngD 0 n.toNat)]) else .bad := rfl
end
end Mi
end

section
set_option maxRecDepth 100000
set_option autoImplicit false
/-! a mutable list lent to a call that reads it -/
namespace Mi
open PySem PySem.Spec L2
mutual
/-- no lists, no dicts -/
def flat : D → Bool
  | .none => true
  | .bool _ => true
  | .int _ => true
  | .str _ => true
  | .tuple xs => flatAll xs
  | _ => false
def flatAll : List D → Bool
  | [] => true
  | x :: xs => flat x && flatAll xs
end
def flatO : MO → Bool
  | .lst xs => flatAll xs
  | .gone => true
  | _ => false
def flatS : Sto → Bool
  | [] => true
  | o :: s => flatO o && flatS s
section
variable {C : RC} {G : Hp} {a : Addr} {us : List V}
end
def lend1 (xs : List D) (j : Nat) : R Val → R Val
  | .ok (.d d) s => if flat d = true ∧ flatS s = true ∧ s.length > j then (match s[j]? with
    | some .gone => .ok (.d d) (s.set j (.lst xs))
    | _ => .bad) else .bad
  | _ => .bad
def lendG (i : Nat) (x : Option (Option Val)) (e : EE) (env : Ev) (st : Sto) : R Val := match x with
  | some (some (.r j)) => (match st[j]? with
    | some (.lst xs) => lend1 xs j (e (env.set i (some (.d (.list xs)))) (st.set j .gone))
    | _ => .bad)
  | _ => .bad
def eLend (i : Nat) (e : EE) : EE := fun env st => lendG i env[i]? e env st
@[simp] theorem eLend_eq (i : Nat) (e : EE) (env : Ev) (st : Sto) : eLend i e env st = lendG i env[i]? e env st := rfl
end Mi
end

section
set_option maxRecDepth 100000
set_option maxHeartbeats 2000000
set_option autoImplicit false
namespace Mi
open PySem PySem.Spec PyProof.Rows L2
/-! ### the head's facts, with tables of code objects -/
/-- the start: all but the tables is frozen -/
def noTbl (H : Hp) : Hp := fun b => match H b with
  | some (.tbl _) => none
  | o => o
theorem noTbl_some {H : Hp} {b : Addr} {u : HO} (h : noTbl H b = some u) : H b = some u := by
  unfold noTbl at h
  split at h
  · cases h
  · exact h
theorem noTbl_of {H : Hp} {b : Addr} {u : HO} (h : H b = some u) (e : isTbl u = false) : noTbl H b = some u := by
  unfold noTbl
  split
  · rename_i q; rw [h] at q; cases q; cases e
  · exact h
theorem sqL_noTbl {K : PySem.W.Frag} {H : Hp} {a : Addr} {xs : List V} (h : SqL K H a xs) : SqL K (noTbl H) a xs := by
  rcases h with h | h
  · rcases h with h | ⟨o, h⟩
    · exact .inl (.inl (noTbl_of h rfl))
    · exact .inl (.inr ⟨o, noTbl_of h rfl⟩)
  · exact .inr h
theorem rl_start {C : RC} {H : Hp} (hT : ∀ j, j < C.cls 99 → H (C.cls (100 + j)) = some (.tbl #[])) : Rl C (noTbl H) [] H [] := by
  refine ⟨fun a u e => noTbl_some e, rfl, List.nodup_nil, fun _ z => absurd z List.not_mem_nil, fun _ _ _ z => (by cases z), fun _ _ _ z => (by cases z), fun j hj => ⟨#[], hT j hj, List.not_mem_nil, ?_, True.intro, fun pos cv hc => ?_⟩, fun _ z => absurd z List.not_mem_nil⟩
  · unfold noTbl; rw [hT j hj]
  · have z : codeAmong pos [] = some cv := hc
    simp [codeAmong] at z
end Mi
end

section
set_option maxRecDepth 100000
set_option maxHeartbeats 2000000
set_option autoImplicit false
/-! instances of own classes: fields, methods, the making -/
namespace Mi
open PySem PySem.Spec L2
def putV (f : Str) (v : Val) : List (Str × Val) → List (Str × Val)
  | [] => [(f, v)]
  | (g, x) :: r => if g = f then (g, v) :: r else (g, x) :: putV f v r
def insAt (c : Nat) (v : Val) (s : Sto) : Option (Nat × List (Str × Val)) := match v with
  | .r i => (match s[i]? with
    | some (.ins c' fs) => if c' = c then some (i, fs) else none
    | _ => none)
  | _ => none
section
variable {cl : Nat → Addr} {X : Cx} {W : WX} {pos p apos pos' : Pos} {e o value : Expr} {es : List Expr} {eo ev : EE} {er : EA} {f m x : Str} {c k n : Nat}
/-! ### o.f -/
def eFld (c : Nat) (f : Str) (eo : EE) : EE := fun env st => (eo env st).bind fun v s => match insAt c v s with
  | some (_, fs) => (match fs.lookup f with
    | some x => .ok x s
    | none => .bad)
  | none => .bad
/-! ### o.f = v -/
def fldF (c : Nat) (f : Str) (y x : Val) (env : Ev) (s2 : Sto) : R Fl := match insAt c x s2 with
  | some (i, fs) => if fs.length < 1000 ∧ notC y = true then .ok (.nx env) (s2.set i (.ins c (putV f y fs))) else .bad
  | none => .bad
def sFld2 (c : Nat) (f : Str) (eo ev : EE) : ES := fun env st => (ev env st).bindS env fun y s1 => (eo env s1).bindS env fun x s2 => fldF c f y x env s2
/-! ### o.m(..) -/
def meth1 (n : Nat) (f : FN) (v : Val) (vs : List Val) (s2 : Sto) : R Val := if (v :: vs).length = n then f (v :: vs) s2 else .bad
def eMeth (c : Nat) (m : Str) (n : Nat) (f : FN) (eo : EE) (er : EA) : EE := fun env st => (eo env st).bind fun v s1 => match insAt c v s1 with
  | some (_, fs) => (match fs.lookup m with
    | none => (er env s1).bind fun vs s2 => meth1 n f v vs s2
    | some _ => .bad)
  | none => .bad
end
end Mi
end

section
set_option maxRecDepth 100000
set_option maxHeartbeats 2000000
set_option autoImplicit false
/-! instances: the making; defs that keep their store -/
namespace Mi
open PySem PySem.Spec L2
section
variable {cl : Nat → Addr} {P : Program} {w : World} {K : PySem.W.Frag} {mg : Str → Option Value} {base : Heap} {k n : Nat} {x qual : Str} {params : Arguments} {body : List Stmt} {scope : Scope} {dvs : List V} {kws : List (Str × V)} {fa : Addr} {fd : FuncData} {N ps : List Str} {ev : ES} {f : FN}
end
/-! ### the making -/
theorem Rl.made {C : RC} {G : Hp} {m : List Addr} {H : Hp} {st : Sto} {x dx : Addr} {c : Nat} (r : Rl C G m H st) (hx : H x = none) (hd : H dx = none) (hne : dx ≠ x) :
    Rl C G (m ++ [x]) (upd (upd H dx (.own x)) x (.ins (C.cls c) dx [])) (st ++ [.ins c []]) ∧ Ext G m H G (m ++ [x]) (upd (upd H dx (.own x)) x (.ins (C.cls c) dx [])) := by
  have r1 := r.side (r.notin hd) (r.freeG hd) (.own x) (nt_none hd)
  have e1 := Ext.side (Ext.refl G m H) hd (.own x)
  have hx1 : upd H dx (.own x) x = none := by rw [upd_ne (fun e => hne e.symm)]; exact hx
  obtain ⟨r2, e2⟩ := r1.alloc hx1 (.ins (C.cls c) dx []) (.ins c []) ⟨dx, [], upd_same, rfl, .nil⟩
  exact ⟨r2, e1.trans e2⟩
section
variable {cl : Nat → Addr} {X : Cx} {W : WX} {pos p : Pos} {a : Expr} {es : List Expr} {er : EA} {x : Str} {k n c : Nat} {f : FN}
end
/-! ### xs[::-1] -/
def eRev (ea : EE) : EE := fun env st => (ea env st).bind fun v s => match lsOf v s with
  | some xs => .ok (.d (.list xs.reverse)) s
  | none => .bad
/-! ### step equations -/
def R.finI (r : R Fl) : R Val := match r with
    | .ok (.nx _) s => .ok (.d .none) s
    | .ok (.rt v) s => .ok v s
    | .ok (.ex e _) s => .exc e s
    | _ => .bad
@[simp] theorem finI_nx (e : Ev) (s : Sto) : (R.ok (.nx e) s).finI = .ok (.d .none) s := rfl
@[simp] theorem finI_rt (v : Val) (s : Sto) : (R.ok (.rt v) s).finI = .ok v s := rfl
def R.fldR (r : R Val) (c : Nat) (f : Str) : R Val := r.bind fun v s => match insAt c v s with
  | some (_, fs) => (match fs.lookup f with
    | some x => .ok x s
    | none => .bad)
  | none => .bad
@[simp] theorem eFld_eq (c : Nat) (f : Str) (eo : EE) (env : Ev) (st : Sto) : eFld c f eo env st = (eo env st).fldR c f := rfl
def R.fldS2 (r : R Val) (c : Nat) (f : Str) (y : Val) (env : Ev) : R Fl := r.bindS env fun x s2 => fldF c f y x env s2
def R.fldS1 (r : R Val) (c : Nat) (f : Str) (eo : EE) (env : Ev) : R Fl := r.bindS env fun y s1 => (eo env s1).fldS2 c f y env
@[simp] theorem sFld2_eq (c : Nat) (f : Str) (eo ev : EE) (env : Ev) (st : Sto) : sFld2 c f eo ev env st = (ev env st).fldS1 c f eo env := rfl
@[simp] theorem fldS1_ok (y : Val) (s : Sto) (c : Nat) (f : Str) (eo : EE) (env : Ev) : (R.ok y s).fldS1 c f eo env = (eo env s).fldS2 c f y env := rfl
@[simp] theorem fldS2_ok (x : Val) (s : Sto) (c : Nat) (f : Str) (y : Val) (env : Ev) : (R.ok x s).fldS2 c f y env = fldF c f y x env s := rfl
def R.meth2 (r : R (List Val)) (n : Nat) (f : FN) (v : Val) : R Val := r.bind fun vs s2 => meth1 n f v vs s2
def R.methR (r : R Val) (c : Nat) (m : Str) (n : Nat) (f : FN) (er : EA) (env : Ev) : R Val := r.bind fun v s1 => match insAt c v s1 with
  | some (_, fs) => (match fs.lookup m with
    | none => (er env s1).meth2 n f v
    | some _ => .bad)
  | none => .bad
@[simp] theorem eMeth_eq (c : Nat) (m : Str) (n : Nat) (f : FN) (eo : EE) (er : EA) (env : Ev) (st : Sto) : eMeth c m n f eo er env st = (eo env st).methR c m n f er env := rfl
@[simp] theorem meth2_ok (vs : List Val) (s : Sto) (n : Nat) (f : FN) (v : Val) : (R.ok vs s).meth2 n f v = if (v :: vs).length = n then f (v :: vs) s else .bad := rfl
def R.revE (r : R Val) : R Val := r.bind fun v s => match lsOf v s with
  | some xs => .ok (.d (.list xs.reverse)) s
  | none => .bad
@[simp] theorem eRev_eq (ea : EE) (env : Ev) (st : Sto) : eRev ea env st = (ea env st).revE := rfl
@[simp] theorem revE_ok (v : Val) (s : Sto) : (R.ok v s).revE = match lsOf v s with
  | some xs => .ok (.d (.list xs.reverse)) s
  | none => .bad := rfl
end Mi
end

section
set_option maxRecDepth 100000
set_option autoImplicit false
/-! own classes in the head's facts -/
namespace Mi
open PySem PySem.Spec PyProof.Rows L2
section
variable {cl : Nat → Addr} {P : Program} {w : World} {K : PySem.W.Frag} {mg : Str → Option Value} {base : Heap} {k j n : Nat} {m x : Str} {h : Heap} {g : FN}
end
end Mi
end

section
set_option maxRecDepth 100000
set_option maxHeartbeats 2000000
set_option autoImplicit false
/-! defs as values: `for test in (f, g, h)` and the call of such a name -/
namespace Mi
open PySem PySem.Spec L2
/-- the defs that a value may be -/
inductive FJs (cl : Nat → Addr) (X : Cx) (k n : Nat) : Nat → List FN → Prop
  | nil {i : Nat} : FJs cl X k n i []
  | cons {i : Nat} {x : Str} {f : FN} {fs : List FN} (F : FokP cl X.prog X.w X.K X.mg X.base k x n f) (hm : X.mg x = some (.ref (cl (200 + i)))) (r : FJs cl X k n (i + 1) fs) : FJs cl X k n i (f :: fs)
theorem FJs.at {cl : Nat → Addr} {X : Cx} {k n : Nat} {i : Nat} {fs : List FN} (h : FJs cl X k n i fs) : ∀ {j : Nat} {f : FN}, fs[j]? = some f → FAt cl X k n (cl (200 + (i + j))) f := by
  induction h with
  | nil => intro j f e; simp at e
  | @cons i x g fs F hm r ih =>
    intro j f e
    cases j with
    | zero =>
      simp at e
      subst e
      obtain ⟨fa, fd, ps, hp, Fo, hm2, hk, hb⟩ := F.ok
      rw [hm] at hm2
      cases hm2
      exact ⟨fd, ps, Fo, hk, hb⟩
    | succ j =>
      have := ih (j := j) (by simpa using e)
      rwa [show i + 1 + j = i + (j + 1) by omega] at this
section
variable {cl : Nat → Addr} {X : Cx} {W : WX} {pos p1 p2 p : Pos} {i a t : Expr} {es fe : List Expr} {er : EA} {ei : EE} {k n : Nat} {fs : List FN} {js : List Nat} {x : Str}
end
end Mi
end

section
set_option maxRecDepth 100000
set_option maxHeartbeats 2000000
set_option autoImplicit false
/-! {k: v} with a tuple key; try of a body that raises nothing; calls with keyword-only arguments -/
namespace Mi
open PySem PySem.Spec PyProof.Rows L2
section
variable {prog : Program} {w : World} {A : Around} {E : Value → Shared → Prop} {s : Shared} {env : Env}
end
section
variable {cl : Nat → Addr} {X : Cx} {W : WX} {pos : Pos} {k v : Expr} {ek ev : EE}
end
/-! ### try .. except (A, B): a body that raises nothing -/
section
variable {cl : Nat → Addr} {X : Cx} {W : WX} {pos : Pos} {body : List Stmt} {h0 : ExceptHandler} {hds : List ExceptHandler} {eb : ES}
end
/-! ### f(a, .., k = v) -/
section
variable {cl : Nat → Addr} {X : Cx} {W : WX} {pos p : Pos} {a : Expr} {es : List Expr} {kws : List Keyword} {ea ek : EA} {n k : Nat} {ks : List Str} {x : Str} {f : FN}
end
end Mi
end

section
set_option maxRecDepth 100000
set_option maxHeartbeats 2000000
set_option autoImplicit false
/-! texts: f-strings, join, split, str(i), int(s), walking a text -/
namespace Mi
open PySem PySem.Spec PyProof.Rows L2
/-! ### f-strings -/
def eFmt (e : EE) : EE := fun env st => (e env st).bind fun v s => match v with
  | .d (.str y) => if small y.length = true then .ok (.d (.str y)) s else .bad
  | .d (.int i) => if i.natAbs.log2 < 1920 then .ok (.d (.str (toString i))) s else .bad
  | _ => .bad
def eJoinF : List EE → Str → EE
  | [], acc => fun env st => .ok (.d (.str acc)) st
  | e :: es, acc => fun env st => (e env st).bind fun v s => match v with
    | .d (.str y) => if small (acc ++ y).length = true then eJoinF es (acc ++ y) env s else .bad
    | _ => .bad
section
variable {cl : Nat → Addr} {X : Cx} {W : WX} {pos p apos : Pos} {a b o e : Expr} {ea eb eo ee : EE}
theorem se_fmt (he : SE cl X W e ee) : SE cl X W (.FormattedValue e (-1) none pos) (eFmt ee) := (pe_fmt he).impM fun σ H Q h => by
  obtain ⟨G, m, env, st, rl, en, pp⟩ := h
  refine ⟨G, m, env, st, rl, en, Post.bindE pp fun v s1 x H1 G1 m1 _ e1 rl1 r1 p1 => ?_⟩
  split at p1
  · rename_i y
    split at p1
    · rename_i hs
      cases r1 with
      | d r => cases r; exact .inl ⟨_, rfl, small_is hs, p1 _ H1 G1 m1 (Ext.refl _ _ _) rl1 (.d (.str _))⟩
    · exact p1.elim
  · rename_i i
    split at p1
    · rename_i hs
      cases r1 with
      | d r => cases r; exact .inr ⟨_, rfl, hs, p1 _ H1 G1 m1 (Ext.refl _ _ _) rl1 (.d (.str _))⟩
    · exact p1.elim
  · exact p1.elim
inductive JS (cl : Nat → Addr) (X : Cx) (W : WX) : List Expr → List EE → Prop
  | nil : JS cl X W [] []
  | cons {e : Expr} {ee : EE} {es : List Expr} {l : List EE} (h : SE cl X W e ee) (r : JS cl X W es l) : JS cl X W (e :: es) (ee :: l)
theorem js_pj {es : List Expr} {l : List EE} (h : JS cl X W es l) : PJ X es (l.map fun ee => tE (rc X cl) W ee) := by
  induction h with
  | nil => exact .nil
  | cons h r ih => exact .cons h ih
theorem tJs_of {σ : L2.St} {Q : VK} : ∀ (l : List EE) (acc : Str) (G : Hp) (m : List Addr) (env : Ev) (st : Sto) (H : Hp), Rl (rc X cl) G m H st → EnvR (rc X cl) G m σ env → Post (rc X cl) (RepV (rc X cl)) G m H Q (fun c d H' => W c d σ H') (eJoinF l acc env st) → tJs (l.map fun ee => tE (rc X cl) W ee) acc σ H fun out H1 => Q (.str out) H1
  | [], acc, G, m, env, st, H, rl, en, pp => pp _ H G m (Ext.refl _ _ _) rl (.d (.str _))
  | ee :: l, acc, G, m, env, st, H, rl, en, pp => by
    refine ⟨G, m, env, st, rl, en, Post.bindE pp fun v s1 x H1 G1 m1 _ e1 rl1 r1 p1 => ?_⟩
    split at p1
    · rename_i y
      split at p1
      · rename_i hs
        cases r1 with
        | d r => cases r; exact ⟨_, rfl, small_is hs, tJs_of l _ G1 m1 env s1 H1 rl1 (en.ext e1) p1⟩
      · exact p1.elim
    · exact p1.elim
theorem se_joined {v1 v2 : Expr} {rest : List Expr} {l : List EE} (h : JS cl X W (v1 :: v2 :: rest) l) : SE cl X W (.JoinedStr (v1 :: v2 :: rest) pos) (eJoinF l Str.empty) := (pe_joined (js_pj h)).impM fun σ H Q h => by
  obtain ⟨G, m, env, st, rl, en, pp⟩ := h
  exact tJs_of l Str.empty G m env st H rl en pp
/-! ### split, join -/
def eSplit (eo ea : EE) : EE := fun env st => (eo env st).bind fun x s => match x with
  | .d (.str a) => (ea env s).bind fun y s2 => (match y with
    | .d (.str b) => if (b.length == 0) = false ∧ small (a.length + 2) = true then .ok (.d (.list ((Txt.split a b).map .str))) s2 else .bad
    | _ => .bad)
  | _ => .bad
theorem rep_strs {C : RC} {G : Hp} : ∀ ys : List Str, RepAll C G (ys.map V.str) (ys.map PyData.str)
  | [] => .nil
  | _ :: r => .cons (.str _) (rep_strs r)
theorem se_split (ho : SE cl X W o eo) (ha : SE cl X W a ea) (hs : starEach [a] X.env = [(false, eval a X.env)] := by rfl) (hbase : attributeBase o "split" X.env (eval o X.env) = eval o X.env := by rfl) (hline : (apos.endLine == pos.line) = true := by rfl) :
    SE cl X W (.Call (.Attribute o "split" apos) [a] [] pos) (eSplit eo ea) := (pe_split ho ha hs hbase hline).impM fun σ H Q h => by
  obtain ⟨G, m, env, st, rl, en, pp⟩ := h
  refine ⟨G, m, env, st, rl, en, Post.bindE pp fun x s x1 H1 G1 m1 _ e1 rl1 r1 p1 => ?_⟩
  split at p1
  · rename_i a0
    cases r1 with
    | d r =>
    cases r
    refine ⟨⟨_, rfl⟩, G1, m1, env, s, rl1, en.ext e1, Post.bindE p1 fun y s2 y1 H2 G2 m2 _ e2 rl2 r2 p2 => ?_⟩
    split at p2
    · rename_i b0
      split at p2
      · rename_i hl
        cases r2 with
        | d r =>
        cases r
        exact ⟨_, _, rfl, rfl, hl.1, small_is hl.2, fun q hq => new_lst rl2 hq (rep_strs _) p2⟩
      · exact p2.elim
    · exact p2.elim
  · exact p1.elim
def strsOf : List D → Option (List Str)
  | [] => some []
  | .str x :: r => (strsOf r).map (x :: ·)
  | _ => none
theorem strs_of {C : RC} {G : Hp} : ∀ {ds : List D} {vs : List V} {ys : List Str}, RepAll C G vs ds → strsOf ds = some ys → vs = ys.map V.str
  | [], _, ys, r, h => by cases r; cases h; rfl
  | .str x :: ds, _, ys, r, h => by
    cases r with
    | cons r1 r2 =>
      simp only [strsOf, Option.map_eq_some_iff] at h
      obtain ⟨zs, h1, rfl⟩ := h
      cases r1
      rw [strs_of r2 h1]; rfl
  | .none :: _, _, _, _, h => by cases h
  | .bool _ :: _, _, _, _, h => by cases h
  | .int _ :: _, _, _, _, h => by cases h
  | .list _ :: _, _, _, _, h => by cases h
  | .tuple _ :: _, _, _, _, h => by cases h
  | .dict _ :: _, _, _, _, h => by cases h
def eJoin (eo ea : EE) : EE := fun env st => (eo env st).bind fun x s => match x with
  | .d (.str a) => (ea env s).bind fun y s2 => (match sqOf y s2 with
    | some ds => (match strsOf ds with
      | some ys => if small ((ys.map (·.length)).sum + ys.length * a.length) = true then .ok (.d (.str (Txt.join a ys))) s2 else .bad
      | none => .bad)
    | none => .bad)
  | _ => .bad
theorem se_join (ho : SE cl X W o eo) (ha : SE cl X W a ea) (hs : starEach [a] X.env = [(false, eval a X.env)] := by rfl) (hbase : attributeBase o "join" X.env (eval o X.env) = eval o X.env := by rfl) (hline : (apos.endLine == pos.line) = true := by rfl) :
    SE cl X W (.Call (.Attribute o "join" apos) [a] [] pos) (eJoin eo ea) := (pe_join ho ha hs hbase hline).impM fun σ H Q h => by
  obtain ⟨G, m, env, st, rl, en, pp⟩ := h
  refine ⟨G, m, env, st, rl, en, Post.bindE pp fun x s x1 H1 G1 m1 _ e1 rl1 r1 p1 => ?_⟩
  split at p1
  · rename_i a0 _
    cases r1 with
    | d r =>
    cases r
    refine ⟨⟨_, rfl⟩, G1, m1, env, s, rl1, en.ext e1, Post.bindE p1 fun y s2 y1 H2 G2 m2 _ e2 rl2 r2 p2 => ?_⟩
    split at p2
    · rename_i ds hd
      split at p2
      · rename_i ys hy
        split at p2
        · rename_i hl
          obtain ⟨q, vs, rfl, hv, ra⟩ := sq_of rl2 r2 hd
          obtain rfl := strs_of ra hy
          have h6 := small_is hl
          rw [sizeLine_eq] at h6
          have h7 : (ys.map (·.length)).sum + ys.length * a0.length ≤ 16777216 := by
            have := of_decide_eq_true (show decide _ = true from hl)
            omega
          exact ⟨_, _, ys, rfl, rfl, hv.imp SqL.of id, h7, p2 _ H2 G2 m2 (Ext.refl _ _ _) rl2 (.d (.str _))⟩
        · exact p2.elim
      · exact p2.elim
    · exact p2.elim
  · exact p1.elim
end
/-! ### str(i), int(s), c in s -/
section
variable {cl : Nat → Addr} {X : Cx}
def bStrI : BF := fun as st => match as with
  | [.d (.int i)] => if i.natAbs.log2 < 1920 then some (.d (.str (toString i)), st) else none
  | _ => none
theorem c_strI : CallR X (.type "str") (rC (rc X cl) bStrI) := callR_imp call_str_int fun xs H Q h => by
  obtain ⟨G, m, st, as, rl, ra, p⟩ := h
  unfold bStrI at p
  split at p
  · obtain ⟨v, rfl, rv⟩ := repVs1 ra
    split at p
    · rename_i hl
      cases rv with
      | d r => cases r; exact ⟨_, rfl, hl, p _ H G m (Ext.refl _ _ _) rl (.d (.str _))⟩
    · exact p.elim
  · exact p.elim
def bLenS : BF := fun as st => match as with
  | [.d (.str z)] => if small z.length = true then some (.d (.int (z.length : Nat)), st) else none
  | _ => none
theorem c_lenS : CallR X (.builtin "len") (rC (rc X cl) bLenS) := callR_imp call_len_str fun xs H Q h => by
  obtain ⟨G, m, st, as, rl, ra, p⟩ := h
  unfold bLenS at p
  split at p
  · obtain ⟨v, rfl, rv⟩ := repVs1 ra
    split at p
    · rename_i hl
      cases rv with
      | d r => cases r; exact ⟨_, rfl, small_is hl, p _ H G m (Ext.refl _ _ _) rl (.d (.int _))⟩
    · exact p.elim
  · exact p.elim
def bIntS : BF := fun as st => match as with
  | [.d (.str a)] => (match PySem.intText? a with
    | some n => if a.length ≤ 640 then some (.d (.int n), st) else none
    | none => none)
  | _ => none
theorem c_intS : CallR X (.type "int") (rC (rc X cl) bIntS) := callR_imp call_int_str fun xs H Q h => by
  obtain ⟨G, m, st, as, rl, ra, p⟩ := h
  unfold bIntS at p
  split at p
  · obtain ⟨v, rfl, rv⟩ := repVs1 ra
    split at p
    · rename_i n e
      split at p
      · rename_i hl
        cases rv with
        | d r => cases r; exact ⟨_, _, rfl, e, hl, p _ H G m (Ext.refl _ _ _) rl (.d (.int _))⟩
      · exact p.elim
    · exact p.elim
  · exact p.elim
instance (x : Str) (n : Int) : Decidable (MulOk x n) := by unfold MulOk; infer_instance
def vInSg (a b : Val) (st : Sto) : Option (Val × Sto) := match a, b with
  | .d (.str x), .d (.str z) => (match x.cps.toList with
    | [c] => some (.d (.bool (decide (c ∈ z.cps.toList))), st)
    | _ => none)
  | _, _ => none
theorem o_inSg : OpR X (compareOp .In) (rO (rc X cl) vInSg) := by
  intro pins s σ H x y v u Q I rx ry h
  obtain ⟨G, m, st, a, b, rl, ra, rb, p⟩ := h
  unfold vInSg at p
  split at p
  · rename_i x0 z0
    split at p
    · rename_i c hc
      cases ra with
      | d ra =>
      cases rb with
      | d rb =>
      cases ra
      cases rb
      have e : x0 = ⟨#[c]⟩ := by
        cases x0 with
        | mk cps => cases cps with
          | mk l => simp at hc; subst hc; rfl
      subst e
      exact op_inS pins s σ H _ _ v u Q I rx ry ⟨c, z0, rfl, rfl, p _ H G m (Ext.refl _ _ _) rl (.d (.bl _))⟩
    · exact p.elim
  · exact p.elim
end
/-! ### walking a text -/
section
variable {cl : Nat → Addr} {X : Cx} {W : WX} {t a : Expr} {ea : EE}
def iTxt (e : EE) : EI := fun env st => (e env st).bind fun v s => match v with
  | .d (.str x) => .ok (x.cps.toList.map fun c => PyData.str ⟨#[c]⟩) s
  | _ => .bad
theorem iters_txt {C : RC} {G : Hp} (x : Str) : Iters C G (Its x) (x.cps.toList.map fun c => PyData.str ⟨#[c]⟩) where
  go := fun {G1 m1 H st1 i} s rl hi => by simpa [Its] using hi
  yld := fun {G1 m1 H st1 i y H' d} s rl yy e => by
    obtain ⟨rfl, c, hc, rfl⟩ := yy
    have : d = .str ⟨#[c]⟩ := by
      rw [List.getElem?_map] at e
      have hc2 : x.cps.toList[i]? = some c := by simpa using hc
      rw [hc2] at e
      cases e; rfl
    subst this
    exact ⟨G1, Ext.refl _ _ _, rl, .str _⟩
  stop := fun {G1 m1 H st1 i} s rl hi => by simpa [Its] using hi
theorem si_txt (he : SE cl X W a ea) : SI cl X W t a (iTxt ea) := (pi_str he).impM fun σ H Q h => by
  obtain ⟨G, m, env, st, rl, en, p⟩ := h
  refine ⟨G, m, env, st, rl, en, Post.bindE p fun v s1 x H1 G1 m1 _ e1 rl1 r1 p1 => ?_⟩
  split at p1
  · cases r1 with
    | d r => cases r; exact ⟨_, rfl, p1 _ H1 G1 m1 (Ext.refl _ _ _) rl1 (iters_txt _)⟩
  · exact p1.elim
end
/-! ### {"a": 1, ..}.get(x) -/
def litK (kvs : List (Str × Int)) : List (Key × V) := mergeK [] (kvs.map fun kv => (.inr kv.1, V.int kv.2))
def eLitGet (kvs : List (Str × Int)) (ea : EE) : EE := fun env st => (ea env st).bind fun v s => match v with
  | .d (.str w) => (match valV (litK kvs) (.inr w) with
    | some (.int i) => .ok (.d (.int i)) s
    | none => .ok (.d .none) s
    | _ => .bad)
  | _ => .bad
inductive LitK (X : Cx) (pos : Pos) : List (Option Expr) → List Expr → List (Str × Int) → Prop
  | nil : LitK X pos [] [] []
  | cons {k : Str} {v : Int} {j j2 : Nat} {p p2 : Pos} {ks : List (Option Expr)} {vs : List Expr} {l : List (Str × Int)} (r : LitK X pos ks vs l) : LitK X pos (some (.Constant (.str k) j p) :: ks) (.Constant (.int v) j2 p2 :: vs) ((k, v) :: l)
theorem lit_pps {X : Cx} {pos : Pos} {ks : List (Option Expr)} {vs : List Expr} {l : List (Str × Int)} (h : LitK X pos ks vs l) : PPs X pos ks vs (l.map fun kv => (tC (.str kv.1), tC (.int kv.2))) ∧ ks.all (·.isSome) = true ∧ ks.length = vs.length ∧ ks.length = l.length := by
  induction h with
  | nil => exact ⟨pps_nil, rfl, rfl, rfl⟩
  | cons r ih => exact ⟨pps_cons pe_str pe_int ih.1, by simpa using ih.2.1, by simp [ih.2.2.1], by simp [ih.2.2.2]⟩
theorem tPairs_lit {σ : L2.St} {H : Hp} : ∀ (l : List (Str × Int)) (Q : List (V × V) → Hp → Prop), Q (l.map fun kv => (V.str kv.1, V.int kv.2)) H → tPairs (l.map fun kv => (tC (.str kv.1), tC (.int kv.2))) σ H Q
  | [], Q, h => h
  | kv :: l, Q, h => tPairs_lit l (fun ps H3 => Q ((V.str kv.1, V.int kv.2) :: ps) H3) h
section
variable {cl : Nat → Addr} {X : Cx} {W : WX} {pos pd apos : Pos} {a : Expr} {ea : EE}
theorem se_litget {ks : List (Option Expr)} {vs : List Expr} {l : List (Str × Int)} (hu : X.A.units + 200 < cLine) (h : LitK X pd ks vs l) (h0 : ks ≠ []) (h15 : ks.length ≤ 15) (ha : SE cl X W a ea) (m : M1 X (.Dict ks vs pd) "get" apos a pos) :
    SE cl X W (.Call (.Attribute (.Dict ks vs pd) "get" apos) [a] [] pos) (eLitGet l ea) := by
  obtain ⟨pp, h1, h2, h3⟩ := lit_pps h
  refine (pe_dget1 (by omega) (pe_disp pp h1 h2 h0 h15) ha m).impM fun σ H Q h => ?_
  obtain ⟨G, m, env, st, rl, en, p⟩ := h
  intro q hq
  refine tPairs_lit l _ ⟨upd_same, l.map fun kv => (.inr kv.1, V.int kv.2), ?_, by rw [List.length_map, ← h3]; exact h15, ?_⟩
  · rw [List.map_map]; rfl
  have e0 : upd (upd H q (.dK [])) q (.dK (mergeK [] (l.map fun kv => (Sum.inr kv.1, V.int kv.2)))) = upd H q (.dK (litK l)) := by
    funext b
    by_cases z : b = q
    · subst z; rw [upd_same, upd_same]; rfl
    · rw [upd_ne z, upd_ne z, upd_ne z]
  rw [e0]
  have hm := rl.notin hq
  have hg := rl.freeG hq
  have rl' := rl.side hm hg (.dK (litK l)) (nt_none hq)
  have x0 : Ext G m H G m (upd H q (.dK (litK l))) := (Ext.refl G m H).side hq _
  refine ⟨q, rfl, .inl ⟨_, .inl upd_same⟩, G, m, env, st, rl', en, Post.bindE (Post.ext x0 p) fun v s1 x H1 G1 m1 _ e1 rl1 r1 p1 => ?_⟩
  have at1 : H1 q = some (.dK (litK l)) := e1.frm q _ upd_same hm
  split at p1
  · rename_i w _
    cases r1 with
    | d r =>
    cases r
    refine ⟨_, .inl ⟨_, .inr w, .inl at1, rfl, rfl⟩, ?_⟩
    split at p1
    · rename_i i e
      rw [e]
      exact p1 _ H1 G1 m1 (Ext.refl _ _ _) rl1 (.d (.int _))
    · rename_i e
      rw [e]
      exact p1 _ H1 G1 m1 (Ext.refl _ _ _) rl1 (.d .non)
    · exact p1.elim
  · exact p1.elim
end
end Mi
end

section
set_option maxRecDepth 100000
set_option maxHeartbeats 2000000
set_option autoImplicit false
/-! try .. except (A, B): return .. -/
namespace Mi
open PySem PySem.Spec PyProof.Rows L2
section
variable {X : Cx} {body : List Stmt} {pos : Pos} {tb : WX → TS} {Wo : WX}
end
section
variable {cl : Nat → Addr} {X : Cx} {X8 : List Nat} {W : WX} {body : List Stmt} {eb : ES} {pos p1 p2 p3 p4 p5 : Pos} {k1 : Nat} {x y : Str} {E : Expr} {f : HV}
end
end Mi
namespace Mi
open PySem PySem.Spec PyProof.Rows L2
/-! ### f(a, ..) of a def whose keyword-only arguments lack -/
section
variable {cl : Nat → Addr} {X : Cx} {W : WX} {pos p : Pos} {a : Expr} {es : List Expr} {er : EA} {x : Str} {k n : Nat} {f : FN} {ds : List D}
end
end Mi
namespace Mi
open PySem PySem.Spec PyProof.Rows L2
/-! ### x < y of lists and tuples -/
end Mi
namespace Mi
open PySem PySem.Spec PyProof.Rows L2
end Mi
end

section
set_option maxRecDepth 100000
set_option maxHeartbeats 2000000
set_option autoImplicit false
/-! instances: ==, isinstance, len, str; methods with defaults; f-strings of one part -/
namespace Mi
open PySem PySem.Spec PyProof.Rows L2
section
variable {cl : Nat → Addr} {X : Cx} {c k : Nat} {f' : FN}
/-! ### x == y by the class's own -/
/-! ### isinstance(x, C) -/
/-! ### len(x), str(x) by the class's own -/
/-! ### f"{..}" -/
/-! ### o.m(..), the rest by defaults -/
end
section
variable {cl : Nat → Addr} {X : Cx} {W : WX} {pos p apos : Pos} {e o : Expr} {es : List Expr} {eo : EE} {er : EA} {m : Str} {c k n : Nat} {ds : List D}
end
section
variable {cl : Nat → Addr} {P : Program} {w : World} {K : PySem.W.Frag} {mg : Str → Option Value} {base : Heap} {k c n : Nat} {m : Str} {f : FN} {fa : Addr} {fd : FuncData} {ps : List Str} {ds : List D} {dv : List Value} {dV : List V}
end
end Mi
namespace Mi
open PySem PySem.Spec PyProof.Rows L2
section
variable {cl : Nat → Addr} {X : Cx} {c k : Nat} {f' : FN}
end
end Mi
end

section
set_option maxRecDepth 100000
set_option maxHeartbeats 2000000
set_option autoImplicit false
/-! [.. for x in xs] where xs is a list that is changed later -/
namespace Mi
open PySem PySem.Spec L2
section
variable {cl : Nat → Addr} {X : Cx} {W : WX} {pos : Pos} {t a c elt : Expr} {ifs : List Expr} {ea : EE} {tg : Tg} {tt : ET} {ee : EE}
variable {scope : Scope} {own : List (Str × Nat)}
end
end Mi
end

section
set_option maxRecDepth 100000
set_option autoImplicit false
/-! slices of texts -/
namespace Mi
open PySem PySem.Spec L2
section
variable {cl : Nat → Addr} {X : Cx} {W : WX} {pos : Pos} {a : Expr} {ea : EE}
end
end Mi
end

section
set_option maxRecDepth 100000
set_option autoImplicit false
/-! x, *rest = a list -/
namespace L2
open PySem PySem.Spec PyProof.Rows
section
variable {prog : Program} {w : World} {A : Around} {E : Value → Shared → Prop} {s : Shared}
end
end L2
namespace Mi
open PySem PySem.Spec L2
section
variable {cl : Nat → Addr} {X : Cx} {W : WX} {pos : Pos} {a b c o : Expr} {ea eb : EE}
end
end Mi
end

section
set_option maxRecDepth 100000
set_option autoImplicit false
/-! xs[a:c] = a list -/
namespace Mi
open PySem PySem.Spec L2
section
variable {cl : Nat → Addr} {X : Cx} {W : WX} {pos pos' p2 : Pos} {o value : Expr} {eo ev : EE}
def slRes (v x : Val) (l h : Option Int) (env : Ev) (st : Sto) : R Fl := match v, x, l, h with
  | .d (.list ys), .r j, some a, some c => (match st[j]? with
    | some (.lst xs) => if 0 ≤ a ∧ a ≤ c ∧ c ≤ (xs.length : Int) ∧ xs.length + ys.length ≤ 1000000 then .ok (.nx env) (st.set j (.lst (xs.take a.toNat ++ ys ++ xs.drop c.toNat))) else .bad
    | _ => .bad)
  | _, _, _, _ => .bad
def sSlPut (eo : EE) (lo hi : EO) (ev : EE) : ES := fun env st => (ev env st).bindS env fun v s1 => (eo env s1).bindS env fun x s2 => (lo env s2).bindS env fun l s3 => (hi env s3).bindS env fun h s4 => slRes v x l h env s4
theorem ss_slput {lo hi : Option Expr} {el eh : EO} (ho : SE cl X W o eo) (hl : SO cl X W lo el) (hh : SO cl X W hi eh) (hv : SE cl X W value ev) (hs : swapsWith value (some (.Subscript o (.Slice lo hi none p2) pos')) pos.line X.env = pure false) :
    SS cl X W (.Assign [.Subscript o (.Slice lo hi none p2) pos'] value pos) (sSlPut eo el eh ev) := by
  refine ⟨fun pins s σ H E I h => ?_⟩
  obtain ⟨G, m, env, st, rl, en, p⟩ := h
  have h4 : tE (rc X cl) W ev σ H fun v H1 => tE (rc X cl) W eo σ H1 fun x H2 => tO (rc X cl) W el σ H2 fun l H3 => tO (rc X cl) W eh σ H3 fun u H4 => ∃ G4 m4 s4 av ax, Rl (rc X cl) G4 m4 H4 s4 ∧ EnvR (rc X cl) G4 m4 σ env ∧ RepV (rc X cl) G4 m4 v av ∧ RepV (rc X cl) G4 m4 x ax ∧ PostS (rc X cl) G4 m4 H4 E W (slRes av ax l u env s4) := by
    refine ⟨G, m, env, st, rl, en, Post.bindS en p fun v s1 xv H1 G1 m1 _ e1 rl1 r1 p1 => ?_⟩
    refine ⟨G1, m1, env, s1, rl1, en.ext e1, Post.bindS (en.ext e1) p1 fun x s2 xx H2 G2 m2 _ e2 rl2 r2 p2 => ?_⟩
    refine ⟨G2, m2, env, s2, rl2, (en.ext e1).ext e2, Post.bindS ((en.ext e1).ext e2) p2 fun l s3 xl H3 G3 m3 _ e3 rl3 r3 p3 => ?_⟩
    cases (show xl = l from r3)
    refine ⟨G3, m3, env, s3, rl3, ((en.ext e1).ext e2).ext e3, Post.bindS (((en.ext e1).ext e2).ext e3) p3 fun u s4 xu H4 G4 m4 _ e4 rl4 r4 p4 => ?_⟩
    cases (show xu = u from r4)
    exact ⟨G4, m4, s4, v, x, rl4, (((en.ext e1).ext e2).ext e3).ext e4, ((r1.ext e2).ext e3).ext e4, (r2.ext e3).ext e4, p4⟩
  refine wpAny_Assign_Subscript (thn (hv.run pins s σ H _ I h4) fun r s1 ⟨v, H1, I1, rv, q1⟩ => thn (ho.run pins s1 σ H1 _ I1 q1) fun u s2 ⟨x, H2, I2, rx, q2⟩ => ?_) hs
  refine wpAny_Slice (thn (hl.run pins s2 σ H2 _ I2 q2) fun vl s3 ⟨l, H3, I3, pl, q3⟩ => thn (hh.run pins s3 σ H3 _ I3 q3) fun vu s4 ⟨u, H4, I4, pu, q4⟩ => ?_)
  rw [evalPart_none]
  refine wpAny_pure ?_
  have I5 : Inv X pins σ H4 { s4 with heap := s4.heap.push { cls := .type "slice", data := .fields #[vl, vu, .none] } } := I4.kept (t' := s4.toks) fun b ob q => Heap.get?_push_of_some _ q
  obtain ⟨G4, m4, st4, av, ax, rl4, en4, rav, rax, p4⟩ := q4
  unfold slRes at p4
  split at p4
  · rename_i ys j a c _
    split at p4
    · rename_i xs es
      split at p4
      · rename_i hc
        obtain ⟨c1, c2, c3, c4⟩ := hc
        cases rax with
        | @r _ la hj =>
          cases rav with
          | d rq =>
            cases rq with
            | @lst lb us _ hg rall =>
              have hb := rl4.sub _ _ hg
              obtain ⟨vs, hv2, ra⟩ := rl4.obj _ _ _ es hj
              have hne : la ≠ lb := fun q => by
                have := rl4.out _ _ _ hj es rfl
                rw [q, hg] at this; cases this
              cases pl with
              | int _ ta =>
                cases pu with
                | int _ tc =>
                  cases rv
                  cases rx
                  obtain ⟨rl5, ex5⟩ := rl4.write hj es rfl (.lst (vs.take a.toNat ++ us ++ vs.drop c.toNat)) (.lst (xs.take a.toNat ++ ys ++ xs.drop c.toNat)) ⟨_, upd_same, (RepAll.append (RepAll.append (ra.take _) rall) (ra.drop _))⟩
                  exact set_slice I5 hv2 hb hne (Heap.IsSliceOf.new ..) ⟨ta, rfl⟩ ⟨tc, rfl⟩ c1 c2 (by rw [ra.length]; exact c3) (by rw [ra.length, rall.length, sizeLine_eq]; omega) fun s' I' => ⟨σ, _, I', p4 _ _ _ _ ex5 rl5 (en4.ext ex5)⟩
      · exact p4.elim
    · exact p4.elim
  · exact p4.elim
end
/-! {"a": 1, ..}.get(x, k) -/
def eLitGet2 (kvs : List (Str × Int)) (ea : EE) (k : Int) : EE := fun env st => (ea env st).bind fun v s => match v with
  | .d (.str w) => (match valV (litK kvs) (.inr w) with
    | some (.int i) => .ok (.d (.int i)) s
    | none => .ok (.d (.int k)) s
    | _ => .bad)
  | _ => .bad
section
variable {cl : Nat → Addr} {X : Cx} {W : WX} {pos pd apos p3 : Pos} {a : Expr} {ea : EE}
theorem se_litget2 {ks : List (Option Expr)} {vs : List Expr} {l : List (Str × Int)} {k : Int} {j : Nat} (hu : X.A.units + 200 < cLine) (h : LitK X pd ks vs l) (h0 : ks ≠ []) (h15 : ks.length ≤ 15) (ha : SE cl X W a ea) (m : M2 X (.Dict ks vs pd) "get" apos a (.Constant (.int k) j p3) pos) :
    SE cl X W (.Call (.Attribute (.Dict ks vs pd) "get" apos) [a, .Constant (.int k) j p3] [] pos) (eLitGet2 l ea k) := by
  obtain ⟨pp, h1, h2, h3⟩ := lit_pps h
  refine (pe_dget2 (by omega) (pe_disp pp h1 h2 h0 h15) ha pe_int m).impM fun σ H Q h => ?_
  obtain ⟨G, m, env, st, rl, en, p⟩ := h
  intro q hq
  refine tPairs_lit l _ ⟨upd_same, l.map fun kv => (.inr kv.1, V.int kv.2), ?_, by rw [List.length_map, ← h3]; exact h15, ?_⟩
  · rw [List.map_map]; rfl
  have e0 : upd (upd H q (.dK [])) q (.dK (mergeK [] (l.map fun kv => (Sum.inr kv.1, V.int kv.2)))) = upd H q (.dK (litK l)) := by
    funext b
    by_cases z : b = q
    · subst z; rw [upd_same, upd_same]; rfl
    · rw [upd_ne z, upd_ne z, upd_ne z]
  rw [e0]
  have hm := rl.notin hq
  have hg := rl.freeG hq
  have rl' := rl.side hm hg (.dK (litK l)) (nt_none hq)
  have x0 : Ext G m H G m (upd H q (.dK (litK l))) := (Ext.refl G m H).side hq _
  refine ⟨q, rfl, .inl ⟨_, .inl upd_same⟩, G, m, env, st, rl', en, Post.bindE (Post.ext x0 p) fun v s1 x H1 G1 m1 _ e1 rl1 r1 p1 => ?_⟩
  have at1 : H1 q = some (.dK (litK l)) := e1.frm q _ upd_same hm
  split at p1
  · rename_i w _
    cases r1 with
    | d r =>
    cases r
    refine ⟨_, .inl ⟨_, .inr w, .inl at1, rfl, rfl⟩, ?_⟩
    split at p1
    · rename_i i e
      rw [e]
      exact p1 _ H1 G1 m1 (Ext.refl _ _ _) rl1 (.d (.int _))
    · rename_i e
      rw [e]
      exact p1 _ H1 G1 m1 (Ext.refl _ _ _) rl1 (.d (.int _))
    · exact p1.elim
  · exact p1.elim
end
/-! x.split(y), to be changed -/
def eSplitR (eo ea : EE) : EE := fun env st => (eo env st).bind fun x s => match x with
  | .d (.str a) => (ea env s).bind fun y s2 => (match y with
    | .d (.str b) => if (b.length == 0) = false ∧ small (a.length + 2) = true then .ok (.r s2.length) (s2 ++ [.lst ((Txt.split a b).map .str)]) else .bad
    | _ => .bad)
  | _ => .bad
section
variable {cl : Nat → Addr} {X : Cx} {W : WX} {pos apos : Pos} {o a : Expr} {eo ea : EE}
theorem se_splitR (ho : SE cl X W o eo) (ha : SE cl X W a ea) (hs : starEach [a] X.env = [(false, eval a X.env)] := by rfl) (hbase : attributeBase o "split" X.env (eval o X.env) = eval o X.env := by rfl) (hline : (apos.endLine == pos.line) = true := by rfl) :
    SE cl X W (.Call (.Attribute o "split" apos) [a] [] pos) (eSplitR eo ea) := (pe_split ho ha hs hbase hline).impM fun σ H Q h => by
  obtain ⟨G, m, env, st, rl, en, pp⟩ := h
  refine ⟨G, m, env, st, rl, en, Post.bindE pp fun x s x1 H1 G1 m1 _ e1 rl1 r1 p1 => ?_⟩
  split at p1
  · rename_i a0
    cases r1 with
    | d r =>
    cases r
    refine ⟨⟨_, rfl⟩, G1, m1, env, s, rl1, en.ext e1, Post.bindE p1 fun y s2 y1 H2 G2 m2 _ e2 rl2 r2 p2 => ?_⟩
    split at p2
    · rename_i b0
      split at p2
      · rename_i hl
        cases r2 with
        | d r =>
        cases r
        exact ⟨_, _, rfl, rfl, hl.1, small_is hl.2, fun q hq => new_ref rl2 hq (rep_strs _) p2⟩
      · exact p2.elim
    · exact p2.elim
  · exact p1.elim
end
theorem slput_ok {eo ev : EE} {lo hi : EO} {env : Ev} {st s1 s2 s3 s4 : Sto} {v x : Val} {l h : Option Int} (h1 : ev env st = .ok v s1) (h2 : eo env s1 = .ok x s2) (h3 : lo env s2 = .ok l s3) (h4 : hi env s3 = .ok h s4) : sSlPut eo lo hi ev env st = slRes v x l h env s4 := by
  unfold sSlPut
  rw [h1]
  show (eo env s1).bindS env _ = _
  rw [h2]
  show (lo env s2).bindS env _ = _
  rw [h3]
  show (hi env s3).bindS env _ = _
  rw [h4]
  rfl
end Mi
end

section
set_option maxRecDepth 100000
set_option maxHeartbeats 4000000
namespace Lw
open PySem PySem.Spec L2 Mi
def cdef (s : Stmt) : Stmt := match s with
  | .ClassDef _ _ _ b _ _ _ _ _ _ _ => b.getD 0 (.Pass ⟨0, 0, 0, 0⟩)
  | _ => .Pass ⟨0, 0, 0, 0⟩
def top (i : Nat) : Stmt := PySem.Challenge.pw_mindsteps_k30_whole_texts.main.body.getD i (.Pass ⟨0, 0, 0, 0⟩)
structure Tb (cl : Nat → Addr) (P : Program) (w : World) (K : PySem.W.Frag) (mg : Str → Option Value) (base : Heap) (k : Nat) (F : Nat → FN) : Prop where
  xt : XT K mg cl (List.range 18)
  i4 : InitOk cl P w K mg base 4 "saying"
  i14 : InitOk cl P w K mg base 14 "number"
  wh : WhOk (List.range 18) cl P w K mg base 1 "_law_which"
  f_is_whole : FokP cl P w K mg base k "is_whole" 3 (F 0)
  f_are_numbers : FokP cl P w K mg base k "are_numbers" 2 (F 1)
  f_are_views : FokP cl P w K mg base k "are_views" 3 (F 2)
  f_sizes_of : FokP cl P w K mg base k "sizes_of" 1 (F 3)
  f_size_of : FokP cl P w K mg base k "size_of" 3 (F 4)
  f_size_after : FokP cl P w K mg base k "size_after" 3 (F 5)
  f_size_of_event : FokP cl P w K mg base k "size_of_event" 3 (F 6)
  f_size_of_deed : FokP cl P w K mg base k "size_of_deed" 3 (F 7)
  f_good_saying : FokP cl P w K mg base k "good_saying" 3 (F 8)
  f_is_saying : FokP cl P w K mg base k "is_saying" 3 (F 9)
  f_saying_text : FokP cl P w K mg base k "saying_text" 1 (F 10)
  f_shown : FokP cl P w K mg base k "shown" 1 (F 11)
  f_number_in : FokP cl P w K mg base k "number_in" 1 (F 12)
  f_part_of : FokP cl P w K mg base k "part_of" 3 (F 13)
  f_read : FokP cl P w K mg base k "read" 1 (F 14)
  f__law_cell_at : FokP cl P w K mg base k "_law_cell_at" 2 (F 15)
  f__law_mixed : FokP cl P w K mg base k "_law_mixed" 3 (F 16)
  f__law_draw : FokP cl P w K mg base k "_law_draw" 3 (F 17)
  f__law_pick : FokP cl P w K mg base k "_law_pick" 3 (F 18)
  f__law_plain : FokP cl P w K mg base k "_law_plain" 5 (F 19)
  f__law_ask : FokP cl P w K mg base k "_law_ask" 1 (F 21)
  f__law_text : FokP cl P w K mg base k "_law_text" 1 (F 22)
  f__law_parse : FokP cl P w K mg base k "_law_parse" 1 (F 23)
  f_law : FokP cl P w K mg base k "law" 1 (F 24)
structure Cs (C : RC) (mg : Str → Option Value) : Prop where
  c_DEEP : GC C mg "DEEP" (.int 12)
  c_AFTER : GC C mg "AFTER" (.int 3)
  c_EVENTS : GC C mg "EVENTS" (.int 5)
  c_FIGURES : GC C mg "FIGURES" (.str "0123456789")
  c_MINDS : GC C mg "MINDS" (.int 3)
  c_FACTS : GC C mg "FACTS" (.int 4)
section
variable {cl : Nat → Addr} {P : Program} {w : World} {K : PySem.W.Frag} {mg : Str → Option Value} {base : Heap} {k : Nat} {F : Nat → FN} {fa : Addr}
def m_is_whole (F : Nat → FN) : ES :=
  (sRet (eAnd (eIsi "int" (eVar 0)) (eAnd (eNot (eIsi "bool" (eVar 0))) (eChain (pur2 (dI iLe)) (pur2 (dI iLe)) (eVar 1) (eVar 0) (eVar 2)))))
theorem sc_is_whole : FnScope ["thing", "low", "high"] ["thing", "low", "high"] (defScope (top 20)) := ⟨rfl, rfl, rfl, by decide +kernel, rfl, by decide +kernel, by decide +kernel⟩
theorem b_is_whole (T : Tb cl P w K mg base (k + 3) F) (B : Bl mg) (C : Cs ⟨K, w, cl⟩ mg) (cdv : Value) (A : Around) (outer : List Env) (s : Shared) (H : Hp) (E : XK) (hr : Room (k + 3) (cxOf (L2N.CX P w) P w K mg base ["thing", "low", "high"] "is_whole" (defScope (top 20)) fa cdv A outer s H E).A) (tk : L2N.Takes (cxOf (L2N.CX P w) P w K mg base ["thing", "low", "high"] "is_whole" (defScope (top 20)) fa cdv A outer s H E) (fun cls d _ H' => E cls d H')) (hp : PassesOwn (model P w) (cxOf (L2N.CX P w) P w K mg base ["thing", "low", "high"] "is_whole" (defScope (top 20)) fa cdv A outer s H E).A (cxOf (L2N.CX P w) P w K mg base ["thing", "low", "high"] "is_whole" (defScope (top 20)) fa cdv A outer s H E).env (cxOf (L2N.CX P w) P w K mg base ["thing", "low", "high"] "is_whole" (defScope (top 20)) fa cdv A outer s H E).xe) :
    SSs cl (cxOf (L2N.CX P w) P w K mg base ["thing", "low", "high"] "is_whole" (defScope (top 20)) fa cdv A outer s H E) (fun cls d _ H' => E cls d H') (defBody (top 20)) (m_is_whole F) := by
  have hu := units_of hr
  have hr2 := hr.mono (show 2 ≤ k + 3 by omega)
  have hr1 := hr.mono (show 1 ≤ k + 3 by omega)
  exact (ss_one (ss_ret (se_and (se_isi (se_var 0) (by rfl) B.isinstance_ (by rfl) B.int_ bb_int) (se_and (se_not (se_isi (se_var 0) (by rfl) B.isinstance_ (by rfl) B.bool_ bb_bool)) (se_one (se_chain o_le o_le (se_var 1) (se_var 0) (se_var 2)))))))
def m_are_numbers (F : Nat → FN) : ES :=
  (sSeq (sIf (kOr (kNot (eTst (eIsi "tuple" (eVar 0)))) (kNot (eTst (eCB bAll (aCons (eLc [2] (.nm 2) (iSeq (eVar 0)) kYes (eCl 3 (F 0) (aCons (eVar 2) (aCons (eC (.int 0)) (aCons (eOp (pur2 (dI iSub)) (eVar 1) (eC (.int 1))) aNil))))) aNil))))) (sRet (eC (.bool false))) sNx)
    (sRet (eCB bAll (aCons (eLc [2, 3] (.tp [2, 3]) (iZip (aCons (eVar 0) (aCons (eSl (eVar 0) (oSome (eC (.int 1))) oNone) aNil))) kYes (eOp (pur2 (dI iLt)) (eVar 2) (eVar 3))) aNil))))
theorem sc_are_numbers : FnScope ["thing", "many", "one", "other"] ["thing", "many"] (defScope (top 21)) := ⟨rfl, rfl, rfl, by decide +kernel, rfl, by decide +kernel, by decide +kernel⟩
theorem b_are_numbers (T : Tb cl P w K mg base (k + 3) F) (B : Bl mg) (C : Cs ⟨K, w, cl⟩ mg) (cdv : Value) (A : Around) (outer : List Env) (s : Shared) (H : Hp) (E : XK) (hr : Room (k + 3) (cxOf (L2N.CX P w) P w K mg base ["thing", "many", "one", "other"] "are_numbers" (defScope (top 21)) fa cdv A outer s H E).A) (tk : L2N.Takes (cxOf (L2N.CX P w) P w K mg base ["thing", "many", "one", "other"] "are_numbers" (defScope (top 21)) fa cdv A outer s H E) (fun cls d _ H' => E cls d H')) (hp : PassesOwn (model P w) (cxOf (L2N.CX P w) P w K mg base ["thing", "many", "one", "other"] "are_numbers" (defScope (top 21)) fa cdv A outer s H E).A (cxOf (L2N.CX P w) P w K mg base ["thing", "many", "one", "other"] "are_numbers" (defScope (top 21)) fa cdv A outer s H E).env (cxOf (L2N.CX P w) P w K mg base ["thing", "many", "one", "other"] "are_numbers" (defScope (top 21)) fa cdv A outer s H E).xe) :
    SSs cl (cxOf (L2N.CX P w) P w K mg base ["thing", "many", "one", "other"] "are_numbers" (defScope (top 21)) fa cdv A outer s H E) (fun cls d _ H' => E cls d H') (defBody (top 21)) (m_are_numbers F) := by
  have hu := units_of hr
  have hr2 := hr.mono (show 2 ≤ k + 3 by omega)
  have hr1 := hr.mono (show 1 ≤ k + 3 by omega)
  exact (ss_cons (ss_if (st_bool (sw_or (st_not (st_val (se_isi (se_var 0) (by rfl) B.isinstance_ (by rfl) B.tuple_ bb_tuple))) (sw_one_or (st_not (st_val (se_callB (c_all rfl) (by rfl) B.all_ bb_all (sa_cons (se_lc (own := [("one", 2)]) rfl sc_are_numbers.nd (si_seq (se_var 0)) (blkOk_by (by kernel_rfl)) (fun _ _ _ _ _ => (sg_name 2 sc_are_numbers.nd (by rfl) (by first | exact Or.inl rfl | exact Or.inr rfl))) (fun _ _ _ _ _ => sts_nil) (fun _ _ _ _ _ => (se_cl T.f_is_whole hr takes0N (by rfl) (sa_cons (se_var 2) (sa_cons se_int (sa_cons (se_op o_sub (se_var 1) se_int) sa_nil))))) (by decide)) sa_nil))))))) (ss_one (ss_ret se_bl)) ss_nil)
    (ss_one (ss_ret (se_callB (c_all rfl) (by rfl) B.all_ bb_all (sa_cons (se_lc (own := [("one", 2), ("other", 3)]) rfl sc_are_numbers.nd (si_zip (by rfl) B.zip_ (sa_cons (se_var 0) (sa_cons (se_slice (se_var 0) (so_some se_int) so_none) sa_nil))) (blkOk_by (by kernel_rfl)) (fun _ _ _ _ _ => (sg_tup (by rfl) (sgs_cons 2 sc_are_numbers.nd (by rfl) (by first | exact Or.inl rfl | exact Or.inr rfl) (sgs_cons 3 sc_are_numbers.nd (by rfl) (by first | exact Or.inl rfl | exact Or.inr rfl) sgs_nil)))) (fun _ _ _ _ _ => sts_nil) (fun _ _ _ _ _ => (se_cmp o_lt (se_var 2) (se_var 3) (by rfl))) (by decide)) sa_nil)))))
def m_are_views (F : Nat → FN) : ES :=
  (sSeq (sIf (kOr (kNot (eTst (eIsi "tuple" (eVar 0)))) (eTst (eOp vNe (eCB bLen (aCons (eVar 0) aNil)) (eVar 1)))) (sRet (eC (.bool false))) sNx)
    (sSeq (sIf (kNot (eTst (eCB bAll (aCons (eLc [3] (.nm 3) (iSeq (eVar 0)) kYes (eAnd (eIsi "tuple" (eVar 3)) (eOp vEq (eCB bLen (aCons (eVar 3) aNil)) (eVar 2)))) aNil)))) (sRet (eC (.bool false))) sNx)
    (sRet (eCB bAll (aCons (eLc2 [3, 4] [4] (.nm 3) (iSeq (eVar 0)) kYes (.nm 4) (iSeq (eVar 3)) kYes (eCl 2 (F 1) (aCons (eVar 4) (aCons (eVar 2) aNil)))) aNil)))))
theorem sc_are_views : FnScope ["thing", "minds", "many", "own", "some"] ["thing", "minds", "many"] (defScope (top 22)) := ⟨rfl, rfl, rfl, by decide +kernel, rfl, by decide +kernel, by decide +kernel⟩
theorem b_are_views (T : Tb cl P w K mg base (k + 3) F) (B : Bl mg) (C : Cs ⟨K, w, cl⟩ mg) (cdv : Value) (A : Around) (outer : List Env) (s : Shared) (H : Hp) (E : XK) (hr : Room (k + 3) (cxOf (L2N.CX P w) P w K mg base ["thing", "minds", "many", "own", "some"] "are_views" (defScope (top 22)) fa cdv A outer s H E).A) (tk : L2N.Takes (cxOf (L2N.CX P w) P w K mg base ["thing", "minds", "many", "own", "some"] "are_views" (defScope (top 22)) fa cdv A outer s H E) (fun cls d _ H' => E cls d H')) (hp : PassesOwn (model P w) (cxOf (L2N.CX P w) P w K mg base ["thing", "minds", "many", "own", "some"] "are_views" (defScope (top 22)) fa cdv A outer s H E).A (cxOf (L2N.CX P w) P w K mg base ["thing", "minds", "many", "own", "some"] "are_views" (defScope (top 22)) fa cdv A outer s H E).env (cxOf (L2N.CX P w) P w K mg base ["thing", "minds", "many", "own", "some"] "are_views" (defScope (top 22)) fa cdv A outer s H E).xe) :
    SSs cl (cxOf (L2N.CX P w) P w K mg base ["thing", "minds", "many", "own", "some"] "are_views" (defScope (top 22)) fa cdv A outer s H E) (fun cls d _ H' => E cls d H') (defBody (top 22)) (m_are_views F) := by
  have hu := units_of hr
  have hr2 := hr.mono (show 2 ≤ k + 3 by omega)
  have hr1 := hr.mono (show 1 ≤ k + 3 by omega)
  exact (ss_cons (ss_if (st_bool (sw_or (st_not (st_val (se_isi (se_var 0) (by rfl) B.isinstance_ (by rfl) B.tuple_ bb_tuple))) (sw_one_or (st_cmp (o_ne hu) (se_callB c_len (by rfl) B.len_ bb_len (sa_cons (se_var 0) sa_nil)) (se_var 1) (by rfl))))) (ss_one (ss_ret se_bl)) ss_nil)
    (ss_cons (ss_if (st_not (st_val (se_callB (c_all rfl) (by rfl) B.all_ bb_all (sa_cons (se_lc (own := [("own", 3)]) rfl sc_are_views.nd (si_seq (se_var 0)) (blkOk_by (by kernel_rfl)) (fun _ _ _ _ _ => (sg_name 3 sc_are_views.nd (by rfl) (by first | exact Or.inl rfl | exact Or.inr rfl))) (fun _ _ _ _ _ => sts_nil) (fun _ _ _ _ _ => (se_and (se_isi (se_var 3) (by rfl) B.isinstance_ (by rfl) B.tuple_ bb_tuple) (se_one (se_cmp (o_eq hu) (se_callB c_len (by rfl) B.len_ bb_len (sa_cons (se_var 3) sa_nil)) (se_var 2) (by rfl))))) (by decide)) sa_nil)))) (ss_one (ss_ret se_bl)) ss_nil)
    (ss_one (ss_ret (se_callB (c_all rfl) (by rfl) B.all_ bb_all (sa_cons (se_lc2 (own := [("own", 3), ("some", 4)]) (vs1 := [4]) rfl sc_are_views.nd (si_seq (se_var 0)) (blkOk_by (by kernel_rfl)) (by decide) (fun _ _ _ _ _ => (sg_name 3 sc_are_views.nd (by rfl) (by first | exact Or.inl rfl | exact Or.inr rfl))) (fun _ _ _ _ _ => sts_nil) (fun _ _ _ _ _ => (si_seq (se_var 3))) (fun _ _ _ _ _ => (sg_name 4 sc_are_views.nd (by rfl) (by first | exact Or.inl rfl | exact Or.inr rfl))) (fun _ _ _ _ _ => sts_nil) (fun _ _ _ _ _ => (se_cl T.f_are_numbers hr takes0N (by rfl) (sa_cons (se_var 4) (sa_cons (se_var 2) sa_nil)))) (by decide) (by decide)) sa_nil))))))
def m_sizes_of (F : Nat → FN) : ES :=
  (sRet (eTup (aCons (eCB bMax (aCons (eLc [1] (.nm 1) (iSeq (eVar 0)) kYes (eOp vIx (eVar 1) (eC (.int 0)))) aNil)) (aCons (eCB bMax (aCons (eLc [1] (.nm 1) (iSeq (eVar 0)) kYes (eOp vIx (eVar 1) (eC (.int 1)))) aNil)) aNil))))
theorem sc_sizes_of : FnScope ["sizes", "one"] ["sizes"] (defScope (top 27)) := ⟨rfl, rfl, rfl, by decide +kernel, rfl, by decide +kernel, by decide +kernel⟩
theorem b_sizes_of (T : Tb cl P w K mg base (k + 3) F) (B : Bl mg) (C : Cs ⟨K, w, cl⟩ mg) (cdv : Value) (A : Around) (outer : List Env) (s : Shared) (H : Hp) (E : XK) (hr : Room (k + 3) (cxOf (L2N.CX P w) P w K mg base ["sizes", "one"] "sizes_of" (defScope (top 27)) fa cdv A outer s H E).A) (tk : L2N.Takes (cxOf (L2N.CX P w) P w K mg base ["sizes", "one"] "sizes_of" (defScope (top 27)) fa cdv A outer s H E) (fun cls d _ H' => E cls d H')) (hp : PassesOwn (model P w) (cxOf (L2N.CX P w) P w K mg base ["sizes", "one"] "sizes_of" (defScope (top 27)) fa cdv A outer s H E).A (cxOf (L2N.CX P w) P w K mg base ["sizes", "one"] "sizes_of" (defScope (top 27)) fa cdv A outer s H E).env (cxOf (L2N.CX P w) P w K mg base ["sizes", "one"] "sizes_of" (defScope (top 27)) fa cdv A outer s H E).xe) :
    SSs cl (cxOf (L2N.CX P w) P w K mg base ["sizes", "one"] "sizes_of" (defScope (top 27)) fa cdv A outer s H E) (fun cls d _ H' => E cls d H') (defBody (top 27)) (m_sizes_of F) := by
  have hu := units_of hr
  have hr2 := hr.mono (show 2 ≤ k + 3 by omega)
  have hr1 := hr.mono (show 1 ≤ k + 3 by omega)
  exact (ss_one (ss_ret (se_tup (sa_cons (se_callB (c_max rfl) (by rfl) B.max_ bb_max (sa_cons (se_lc (own := [("one", 1)]) rfl sc_sizes_of.nd (si_seq (se_var 0)) (blkOk_by (by kernel_rfl)) (fun _ _ _ _ _ => (sg_name 1 sc_sizes_of.nd (by rfl) (by first | exact Or.inl rfl | exact Or.inr rfl))) (fun _ _ _ _ _ => sts_nil) (fun _ _ _ _ _ => (se_ix (se_var 1) se_int (fun _ _ => rfl))) (by decide)) sa_nil)) (sa_cons (se_callB (c_max rfl) (by rfl) B.max_ bb_max (sa_cons (se_lc (own := [("one", 1)]) rfl sc_sizes_of.nd (si_seq (se_var 0)) (blkOk_by (by kernel_rfl)) (fun _ _ _ _ _ => (sg_name 1 sc_sizes_of.nd (by rfl) (by first | exact Or.inl rfl | exact Or.inr rfl))) (fun _ _ _ _ _ => sts_nil) (fun _ _ _ _ _ => (se_ix (se_var 1) se_int (fun _ _ => rfl))) (by decide)) sa_nil)) sa_nil)))))
def m_size_of (F : Nat → FN) : ES :=
  (sSeq (sIf (kOr (kNot (eTst (eIsi "tuple" (eVar 2)))) (kOr (eTst (eOp vEq (eVar 2) (eTup aNil))) (kNot (eTst (eIsi "str" (eOp vIx (eVar 2) (eC (.int 0)))))))) (sRet (eC .none)) sNx)
    (sSeq (sStar 3 4 (eVar 2))
    (sSeq (sIf (eTst (eOp vEq (eVar 3) (eC (.str "fact")))) (sRet (eIf (kAnd (eTst (eOp vEq (eCB bLen (aCons (eVar 4) aNil)) (eC (.int 1)))) (eTst (eCl 3 (F 0) (aCons (eOp vIx (eVar 4) (eC (.int 0))) (aCons (eC (.int 0)) (aCons (eOp (pur2 (dI iSub)) (eVar 1) (eC (.int 1))) aNil)))))) (eTup (aCons (eC (.int 1)) (aCons (eC (.int 0)) aNil))) (eC .none))) sNx)
    (sSeq (sIf (eTst (eOp vEq (eVar 3) (eC (.str "after")))) (sRet (eCl 3 (F 5) (aCons (eVar 0) (aCons (eVar 1) (aCons (eVar 4) aNil))))) sNx)
    (sSeq (sIf (eTst (eOp vIn (eVar 3) (eTup (aCons (eC (.str "holds")) (aCons (eC (.str "may")) aNil))))) (sSeq (sIf (kOr (eTst (eOp vNe (eCB bLen (aCons (eVar 4) aNil)) (eC (.int 2)))) (kNot (eTst (eCl 3 (F 0) (aCons (eOp vIx (eVar 4) (eC (.int 0))) (aCons (eC (.int 0)) (aCons (eOp (pur2 (dI iSub)) (eVar 0) (eC (.int 1))) aNil))))))) (sRet (eC .none)) sNx)
    (sSet 4 (eSl (eVar 4) (oSome (eC (.int 1))) oNone))) (sIf (eTst (eOp vIn (eVar 3) (eTup (aCons (eC (.str "and")) (aCons (eC (.str "or")) aNil))))) (sIf (eTst (eOp vNe (eCB bLen (aCons (eVar 4) aNil)) (eC (.int 2)))) (sRet (eC .none)) sNx) (sIf (kOr (eTst (eOp vNin (eVar 3) (eTup (aCons (eC (.str "not")) (aCons (eC (.str "all")) (aCons (eC (.str "common")) aNil)))))) (eTst (eOp vNe (eCB bLen (aCons (eVar 4) aNil)) (eC (.int 1))))) (sRet (eC .none)) sNx)))
    (sSeq (sSet 5 (eLc [8] (.nm 8) (iSeq (eVar 4)) kYes (eCl 3 (F 4) (aCons (eVar 0) (aCons (eVar 1) (aCons (eVar 8) aNil))))))
    (sSeq (sIf (eTst (eOp vIn (eC .none) (eVar 5))) (sRet (eC .none)) sNx)
    (sSeq (sSetT (.tp [6, 7]) (eCl 1 (F 3) (aCons (eVar 5) aNil)))
    (sRet (eTup (aCons (eOp vAdd (eVar 6) (eC (.int 1))) (aCons (eVar 7) aNil))))))))))))
theorem sc_size_of : FnScope ["minds", "facts", "thing", "word", "rest", "sizes", "deep", "deeds", "one"] ["minds", "facts", "thing"] (defScope (top 28)) := ⟨rfl, rfl, rfl, by decide +kernel, rfl, by decide +kernel, by decide +kernel⟩
theorem b_size_of (T : Tb cl P w K mg base (k + 3) F) (B : Bl mg) (C : Cs ⟨K, w, cl⟩ mg) (cdv : Value) (A : Around) (outer : List Env) (s : Shared) (H : Hp) (E : XK) (hr : Room (k + 3) (cxOf (L2N.CX P w) P w K mg base ["minds", "facts", "thing", "word", "rest", "sizes", "deep", "deeds", "one"] "size_of" (defScope (top 28)) fa cdv A outer s H E).A) (tk : L2N.Takes (cxOf (L2N.CX P w) P w K mg base ["minds", "facts", "thing", "word", "rest", "sizes", "deep", "deeds", "one"] "size_of" (defScope (top 28)) fa cdv A outer s H E) (fun cls d _ H' => E cls d H')) (hp : PassesOwn (model P w) (cxOf (L2N.CX P w) P w K mg base ["minds", "facts", "thing", "word", "rest", "sizes", "deep", "deeds", "one"] "size_of" (defScope (top 28)) fa cdv A outer s H E).A (cxOf (L2N.CX P w) P w K mg base ["minds", "facts", "thing", "word", "rest", "sizes", "deep", "deeds", "one"] "size_of" (defScope (top 28)) fa cdv A outer s H E).env (cxOf (L2N.CX P w) P w K mg base ["minds", "facts", "thing", "word", "rest", "sizes", "deep", "deeds", "one"] "size_of" (defScope (top 28)) fa cdv A outer s H E).xe) :
    SSs cl (cxOf (L2N.CX P w) P w K mg base ["minds", "facts", "thing", "word", "rest", "sizes", "deep", "deeds", "one"] "size_of" (defScope (top 28)) fa cdv A outer s H E) (fun cls d _ H' => E cls d H') (defBody (top 28)) (m_size_of F) := by
  have hu := units_of hr
  have hr2 := hr.mono (show 2 ≤ k + 3 by omega)
  have hr1 := hr.mono (show 1 ≤ k + 3 by omega)
  exact (ss_cons (ss_if (st_bool (sw_or (st_not (st_val (se_isi (se_var 2) (by rfl) B.isinstance_ (by rfl) B.tuple_ bb_tuple))) (sw_or (st_cmp (o_eq hu) (se_var 2) (se_tup sa_nil) (by rfl)) (sw_one_or (st_not (st_val (se_isi (se_ix (se_var 2) se_int (fun _ _ => rfl)) (by rfl) B.isinstance_ (by rfl) B.str_ bb_str))))))) (ss_one (ss_ret se_non)) ss_nil)
    (ss_cons (ss_star 3 4 rfl sc_size_of.nd (by rfl) (by rfl) (by first | exact Or.inl rfl | exact Or.inr rfl) (by first | exact Or.inl rfl | exact Or.inr rfl) (fun _ => rfl) (se_var 2))
    (ss_cons (ss_if (st_cmp (o_eq hu) (se_var 3) se_str (by rfl)) (ss_one (ss_ret (se_if (st_bool (sw_and (st_cmp (o_eq hu) (se_callB c_len (by rfl) B.len_ bb_len (sa_cons (se_var 4) sa_nil)) se_int (by rfl)) (sw_one_and (st_val (se_cl T.f_is_whole hr tk (by rfl) (sa_cons (se_ix (se_var 4) se_int (fun _ _ => rfl)) (sa_cons se_int (sa_cons (se_op o_sub (se_var 1) se_int) sa_nil)))))))) (se_tup (sa_cons se_int (sa_cons se_int sa_nil))) se_non))) ss_nil)
    (ss_cons (ss_if (st_cmp (o_eq hu) (se_var 3) se_str (by rfl)) (ss_one (ss_ret (se_cl T.f_size_after hr tk (by rfl) (sa_cons (se_var 0) (sa_cons (se_var 1) (sa_cons (se_var 4) sa_nil)))))) ss_nil)
    (ss_cons (ss_if (st_cmp (o_in hu) (se_var 3) (se_tup (sa_cons se_str (sa_cons se_str sa_nil))) (by rfl)) (ss_cons (ss_if (st_bool (sw_or (st_cmp (o_ne hu) (se_callB c_len (by rfl) B.len_ bb_len (sa_cons (se_var 4) sa_nil)) se_int (by rfl)) (sw_one_or (st_not (st_val (se_cl T.f_is_whole hr tk (by rfl) (sa_cons (se_ix (se_var 4) se_int (fun _ _ => rfl)) (sa_cons se_int (sa_cons (se_op o_sub (se_var 0) se_int) sa_nil))))))))) (ss_one (ss_ret se_non)) ss_nil)
    (ss_one (ss_set 4 sc_size_of.nd (by rfl) (by first | exact Or.inl rfl | exact Or.inr rfl) (se_slice (se_var 4) (so_some se_int) so_none)))) (ss_one (ss_if (st_cmp (o_in hu) (se_var 3) (se_tup (sa_cons se_str (sa_cons se_str sa_nil))) (by rfl)) (ss_one (ss_if (st_cmp (o_ne hu) (se_callB c_len (by rfl) B.len_ bb_len (sa_cons (se_var 4) sa_nil)) se_int (by rfl)) (ss_one (ss_ret se_non)) ss_nil)) (ss_one (ss_if (st_bool (sw_or (st_cmp (o_nin hu) (se_var 3) (se_tup (sa_cons se_str (sa_cons se_str (sa_cons se_str sa_nil)))) (by rfl)) (sw_one_or (st_cmp (o_ne hu) (se_callB c_len (by rfl) B.len_ bb_len (sa_cons (se_var 4) sa_nil)) se_int (by rfl))))) (ss_one (ss_ret se_non)) ss_nil)))))
    (ss_cons (ss_setLc (own := [("one", 8)]) 5 rfl sc_size_of.nd (by rfl) rfl (sw_true rfl rfl rfl (by kernel_rfl)) (si_seq (se_var 4)) (blkOk_by (by kernel_rfl)) (fun _ _ _ _ _ => (sg_name 8 sc_size_of.nd (by rfl) (by first | exact Or.inl rfl | exact Or.inr rfl))) (fun _ _ _ _ _ => sts_nil) (fun _ _ _ _ _ => (se_cl T.f_size_of hr takes0N (by rfl) (sa_cons (se_var 0) (sa_cons (se_var 1) (sa_cons (se_var 8) sa_nil))))) (by decide))
    (ss_cons (ss_if (st_cmp (o_in hu) se_non (se_var 5) (by rfl)) (ss_one (ss_ret se_non)) ss_nil)
    (ss_cons (ss_setT (se_cl T.f_sizes_of hr tk (by rfl) (sa_cons (se_var 5) sa_nil)) (sg_tup (by rfl) (sgs_cons 6 sc_size_of.nd (by rfl) (by first | exact Or.inl rfl | exact Or.inr rfl) (sgs_cons 7 sc_size_of.nd (by rfl) (by first | exact Or.inl rfl | exact Or.inr rfl) sgs_nil))))
    (ss_one (ss_ret (se_tup (sa_cons (se_op o_add (se_var 6) se_int) (sa_cons (se_var 7) sa_nil)))))))))))))
def m_size_after (F : Nat → FN) : ES :=
  (sSeq (sIf (eTst (eOp vNe (eCB bLen (aCons (eVar 2) aNil)) (eC (.int 3)))) (sRet (eC .none)) sNx)
    (sSeq (sParN [3, 4] (aCons (eCl 3 (F 7) (aCons (eVar 0) (aCons (eVar 1) (aCons (eOp vIx (eVar 2) (eC (.int 0))) aNil)))) (aCons (eCl 3 (F 4) (aCons (eVar 0) (aCons (eVar 1) (aCons (eOp vIx (eVar 2) (eC (.int 2))) aNil)))) aNil)))
    (sSeq (sIf (kOr (eTst (eOp vIsN (eVar 3) (eC .none))) (kOr (eTst (eOp vIsN (eVar 4) (eC .none))) (kNot (eTst (eCl 3 (F 0) (aCons (eOp vIx (eVar 2) (eC (.int 1))) (aCons (eC (.int 0)) (aCons (eOp (pur2 (dI iSub)) (eCB bLen (aCons (eOp vIx (eOp vIx (eVar 2) (eC (.int 0))) (eC (.int 0))) aNil)) (eC (.int 1))) aNil)))))))) (sRet (eC .none)) sNx)
    (sSeq (sSetT (.tp [5, 6]) (eCl 1 (F 3) (aCons (eLst (aCons (eVar 3) (aCons (eVar 4) aNil))) aNil)))
    (sRet (eTup (aCons (eOp vAdd (eVar 5) (eC (.int 1))) (aCons (eOp vAdd (eVar 6) (eC (.int 1))) aNil))))))))
theorem sc_size_after : FnScope ["minds", "facts", "rest", "deed", "saying", "deep", "deeds"] ["minds", "facts", "rest"] (defScope (top 29)) := ⟨rfl, rfl, rfl, by decide +kernel, rfl, by decide +kernel, by decide +kernel⟩
theorem b_size_after (T : Tb cl P w K mg base (k + 3) F) (B : Bl mg) (C : Cs ⟨K, w, cl⟩ mg) (cdv : Value) (A : Around) (outer : List Env) (s : Shared) (H : Hp) (E : XK) (hr : Room (k + 3) (cxOf (L2N.CX P w) P w K mg base ["minds", "facts", "rest", "deed", "saying", "deep", "deeds"] "size_after" (defScope (top 29)) fa cdv A outer s H E).A) (tk : L2N.Takes (cxOf (L2N.CX P w) P w K mg base ["minds", "facts", "rest", "deed", "saying", "deep", "deeds"] "size_after" (defScope (top 29)) fa cdv A outer s H E) (fun cls d _ H' => E cls d H')) (hp : PassesOwn (model P w) (cxOf (L2N.CX P w) P w K mg base ["minds", "facts", "rest", "deed", "saying", "deep", "deeds"] "size_after" (defScope (top 29)) fa cdv A outer s H E).A (cxOf (L2N.CX P w) P w K mg base ["minds", "facts", "rest", "deed", "saying", "deep", "deeds"] "size_after" (defScope (top 29)) fa cdv A outer s H E).env (cxOf (L2N.CX P w) P w K mg base ["minds", "facts", "rest", "deed", "saying", "deep", "deeds"] "size_after" (defScope (top 29)) fa cdv A outer s H E).xe) :
    SSs cl (cxOf (L2N.CX P w) P w K mg base ["minds", "facts", "rest", "deed", "saying", "deep", "deeds"] "size_after" (defScope (top 29)) fa cdv A outer s H E) (fun cls d _ H' => E cls d H') (defBody (top 29)) (m_size_after F) := by
  have hu := units_of hr
  have hr2 := hr.mono (show 2 ≤ k + 3 by omega)
  have hr1 := hr.mono (show 1 ≤ k + 3 by omega)
  exact (ss_cons (ss_if (st_cmp (o_ne hu) (se_callB c_len (by rfl) B.len_ bb_len (sa_cons (se_var 2) sa_nil)) se_int (by rfl)) (ss_one (ss_ret se_non)) ss_nil)
    (ss_cons (ss_par 3 4 rfl sc_size_after.nd (by rfl) (by rfl) (by decide) rfl rfl (sa_cons (se_cl T.f_size_of_deed hr tk (by rfl) (sa_cons (se_var 0) (sa_cons (se_var 1) (sa_cons (se_ix (se_var 2) se_int (fun _ _ => rfl)) sa_nil)))) (sa_cons (se_cl T.f_size_of hr tk (by rfl) (sa_cons (se_var 0) (sa_cons (se_var 1) (sa_cons (se_ix (se_var 2) se_int (fun _ _ => rfl)) sa_nil)))) sa_nil)) (by rfl))
    (ss_cons (ss_if (st_bool (sw_or (st_cmp o_is (se_var 3) se_non (by rfl)) (sw_or (st_cmp o_is (se_var 4) se_non (by rfl)) (sw_one_or (st_not (st_val (se_cl T.f_is_whole hr tk (by rfl) (sa_cons (se_ix (se_var 2) se_int (fun _ _ => rfl)) (sa_cons se_int (sa_cons (se_op o_sub (se_callB c_len (by rfl) B.len_ bb_len (sa_cons (se_ix (se_ix (se_var 2) se_int (fun _ _ => rfl)) se_int (fun _ _ => rfl)) sa_nil)) se_int) sa_nil)))))))))) (ss_one (ss_ret se_non)) ss_nil)
    (ss_cons (ss_setT (se_cl T.f_sizes_of hr tk (by rfl) (sa_cons (se_lst (sa_cons (se_var 3) (sa_cons (se_var 4) sa_nil))) sa_nil)) (sg_tup (by rfl) (sgs_cons 5 sc_size_after.nd (by rfl) (by first | exact Or.inl rfl | exact Or.inr rfl) (sgs_cons 6 sc_size_after.nd (by rfl) (by first | exact Or.inl rfl | exact Or.inr rfl) sgs_nil))))
    (ss_one (ss_ret (se_tup (sa_cons (se_op o_add (se_var 5) se_int) (sa_cons (se_op o_add (se_var 6) se_int) sa_nil)))))))))
def m_size_of_event (F : Nat → FN) : ES :=
  (sSeq (sIf (kOr (kNot (eTst (eIsi "tuple" (eVar 2)))) (kOr (eTst (eOp vNe (eCB bLen (aCons (eVar 2) aNil)) (eC (.int 2)))) (kNot (eTst (eIsi "tuple" (eOp vIx (eVar 2) (eC (.int 1)))))))) (sRet (eC .none)) sNx)
    (sSeq (sIf (kNot (eTst (eCB bAll (aCons (eLc [4] (.nm 4) (iSeq (eOp vIx (eVar 2) (eC (.int 1)))) kYes (eAnd (eIsi "tuple" (eVar 4)) (eAnd (eOp vEq (eCB bLen (aCons (eVar 4) aNil)) (eC (.int 2))) (eCl 3 (F 0) (aCons (eOp vIx (eVar 4) (eC (.int 0))) (aCons (eC (.int 0)) (aCons (eOp (pur2 (dI iSub)) (eVar 1) (eC (.int 1))) aNil))))))) aNil)))) (sRet (eC .none)) sNx)
    (sSeq (sIf (kNot (eTst (eCB bAll (aCons (eLc [4, 5] (.tp [4, 5]) (iZip (aCons (eOp vIx (eVar 2) (eC (.int 1))) (aCons (eSl (eOp vIx (eVar 2) (eC (.int 1))) (oSome (eC (.int 1))) oNone) aNil))) kYes (eOp (pur2 (dI iLt)) (eOp vIx (eVar 4) (eC (.int 0))) (eOp vIx (eVar 5) (eC (.int 0))))) aNil)))) (sRet (eC .none)) sNx)
    (sSeq (sSet 3 (eOp vAdd (eLst (aCons (eCl 3 (F 4) (aCons (eVar 0) (aCons (eVar 1) (aCons (eOp vIx (eVar 2) (eC (.int 0))) aNil)))) aNil)) (eLc [4] (.nm 4) (iSeq (eOp vIx (eVar 2) (eC (.int 1)))) kYes (eCl 3 (F 4) (aCons (eVar 0) (aCons (eVar 1) (aCons (eOp vIx (eVar 4) (eC (.int 1))) aNil)))))))
    (sRet (eIf (eTst (eOp vIn (eC .none) (eVar 3))) (eC .none) (eCl 1 (F 3) (aCons (eVar 3) aNil))))))))
theorem sc_size_of_event : FnScope ["minds", "facts", "thing", "sizes", "one", "other"] ["minds", "facts", "thing"] (defScope (top 30)) := ⟨rfl, rfl, rfl, by decide +kernel, rfl, by decide +kernel, by decide +kernel⟩
theorem b_size_of_event (T : Tb cl P w K mg base (k + 3) F) (B : Bl mg) (C : Cs ⟨K, w, cl⟩ mg) (cdv : Value) (A : Around) (outer : List Env) (s : Shared) (H : Hp) (E : XK) (hr : Room (k + 3) (cxOf (L2N.CX P w) P w K mg base ["minds", "facts", "thing", "sizes", "one", "other"] "size_of_event" (defScope (top 30)) fa cdv A outer s H E).A) (tk : L2N.Takes (cxOf (L2N.CX P w) P w K mg base ["minds", "facts", "thing", "sizes", "one", "other"] "size_of_event" (defScope (top 30)) fa cdv A outer s H E) (fun cls d _ H' => E cls d H')) (hp : PassesOwn (model P w) (cxOf (L2N.CX P w) P w K mg base ["minds", "facts", "thing", "sizes", "one", "other"] "size_of_event" (defScope (top 30)) fa cdv A outer s H E).A (cxOf (L2N.CX P w) P w K mg base ["minds", "facts", "thing", "sizes", "one", "other"] "size_of_event" (defScope (top 30)) fa cdv A outer s H E).env (cxOf (L2N.CX P w) P w K mg base ["minds", "facts", "thing", "sizes", "one", "other"] "size_of_event" (defScope (top 30)) fa cdv A outer s H E).xe) :
    SSs cl (cxOf (L2N.CX P w) P w K mg base ["minds", "facts", "thing", "sizes", "one", "other"] "size_of_event" (defScope (top 30)) fa cdv A outer s H E) (fun cls d _ H' => E cls d H') (defBody (top 30)) (m_size_of_event F) := by
  have hu := units_of hr
  have hr2 := hr.mono (show 2 ≤ k + 3 by omega)
  have hr1 := hr.mono (show 1 ≤ k + 3 by omega)
  exact (ss_cons (ss_if (st_bool (sw_or (st_not (st_val (se_isi (se_var 2) (by rfl) B.isinstance_ (by rfl) B.tuple_ bb_tuple))) (sw_or (st_cmp (o_ne hu) (se_callB c_len (by rfl) B.len_ bb_len (sa_cons (se_var 2) sa_nil)) se_int (by rfl)) (sw_one_or (st_not (st_val (se_isi (se_ix (se_var 2) se_int (fun _ _ => rfl)) (by rfl) B.isinstance_ (by rfl) B.tuple_ bb_tuple))))))) (ss_one (ss_ret se_non)) ss_nil)
    (ss_cons (ss_if (st_not (st_val (se_callB (c_all rfl) (by rfl) B.all_ bb_all (sa_cons (se_lc (own := [("one", 4)]) rfl sc_size_of_event.nd (si_seq (se_ix (se_var 2) se_int (fun _ _ => rfl))) (blkOk_by (by kernel_rfl)) (fun _ _ _ _ _ => (sg_name 4 sc_size_of_event.nd (by rfl) (by first | exact Or.inl rfl | exact Or.inr rfl))) (fun _ _ _ _ _ => sts_nil) (fun _ _ _ _ _ => (se_and (se_isi (se_var 4) (by rfl) B.isinstance_ (by rfl) B.tuple_ bb_tuple) (se_and (se_cmp (o_eq hu) (se_callB c_len (by rfl) B.len_ bb_len (sa_cons (se_var 4) sa_nil)) se_int (by rfl)) (se_one (se_cl T.f_is_whole hr takes0N (by rfl) (sa_cons (se_ix (se_var 4) se_int (fun _ _ => rfl)) (sa_cons se_int (sa_cons (se_op o_sub (se_var 1) se_int) sa_nil)))))))) (by decide)) sa_nil)))) (ss_one (ss_ret se_non)) ss_nil)
    (ss_cons (ss_if (st_not (st_val (se_callB (c_all rfl) (by rfl) B.all_ bb_all (sa_cons (se_lc (own := [("one", 4), ("other", 5)]) rfl sc_size_of_event.nd (si_zip (by rfl) B.zip_ (sa_cons (se_ix (se_var 2) se_int (fun _ _ => rfl)) (sa_cons (se_slice (se_ix (se_var 2) se_int (fun _ _ => rfl)) (so_some se_int) so_none) sa_nil))) (blkOk_by (by kernel_rfl)) (fun _ _ _ _ _ => (sg_tup (by rfl) (sgs_cons 4 sc_size_of_event.nd (by rfl) (by first | exact Or.inl rfl | exact Or.inr rfl) (sgs_cons 5 sc_size_of_event.nd (by rfl) (by first | exact Or.inl rfl | exact Or.inr rfl) sgs_nil)))) (fun _ _ _ _ _ => sts_nil) (fun _ _ _ _ _ => (se_cmp o_lt (se_ix (se_var 4) se_int (fun _ _ => rfl)) (se_ix (se_var 5) se_int (fun _ _ => rfl)) (by rfl))) (by decide)) sa_nil)))) (ss_one (ss_ret se_non)) ss_nil)
    (ss_cons (ss_set 3 sc_size_of_event.nd (by rfl) (by first | exact Or.inl rfl | exact Or.inr rfl) (se_op o_add (se_lst (sa_cons (se_cl T.f_size_of hr tk (by rfl) (sa_cons (se_var 0) (sa_cons (se_var 1) (sa_cons (se_ix (se_var 2) se_int (fun _ _ => rfl)) sa_nil)))) sa_nil)) (se_lc (own := [("one", 4)]) rfl sc_size_of_event.nd (si_seq (se_ix (se_var 2) se_int (fun _ _ => rfl))) (blkOk_by (by kernel_rfl)) (fun _ _ _ _ _ => (sg_name 4 sc_size_of_event.nd (by rfl) (by first | exact Or.inl rfl | exact Or.inr rfl))) (fun _ _ _ _ _ => sts_nil) (fun _ _ _ _ _ => (se_cl T.f_size_of hr takes0N (by rfl) (sa_cons (se_var 0) (sa_cons (se_var 1) (sa_cons (se_ix (se_var 4) se_int (fun _ _ => rfl)) sa_nil))))) (by decide))))
    (ss_one (ss_ret (se_if (st_cmp (o_in hu) se_non (se_var 3) (by rfl)) se_non (se_cl T.f_sizes_of hr tk (by rfl) (sa_cons (se_var 3) sa_nil)))))))))
def m_size_of_deed (F : Nat → FN) : ES :=
  (sSeq (sIf (kOr (kNot (eTst (eIsi "tuple" (eVar 2)))) (kOr (eTst (eOp vNe (eCB bLen (aCons (eVar 2) aNil)) (eC (.int 2)))) (kNot (eTst (eIsi "tuple" (eOp vIx (eVar 2) (eC (.int 0)))))))) (sRet (eC .none)) sNx)
    (sSeq (sIf (kOr (kNot (eTst (eChain (pur2 (dI iLe)) (pur2 (dI iLe)) (eC (.int 1)) (eCB bLen (aCons (eOp vIx (eVar 2) (eC (.int 0))) aNil)) (eC (.int 5))))) (kNot (eTst (eCl 3 (F 2) (aCons (eOp vIx (eVar 2) (eC (.int 1))) (aCons (eVar 0) (aCons (eCB bLen (aCons (eOp vIx (eVar 2) (eC (.int 0))) aNil)) aNil))))))) (sRet (eC .none)) sNx)
    (sSeq (sSet 3 (eLc [4] (.nm 4) (iSeq (eOp vIx (eVar 2) (eC (.int 0)))) kYes (eCl 3 (F 6) (aCons (eVar 0) (aCons (eVar 1) (aCons (eVar 4) aNil))))))
    (sRet (eIf (eTst (eOp vIn (eC .none) (eVar 3))) (eC .none) (eCl 1 (F 3) (aCons (eVar 3) aNil)))))))
theorem sc_size_of_deed : FnScope ["minds", "facts", "thing", "sizes", "event"] ["minds", "facts", "thing"] (defScope (top 31)) := ⟨rfl, rfl, rfl, by decide +kernel, rfl, by decide +kernel, by decide +kernel⟩
theorem b_size_of_deed (T : Tb cl P w K mg base (k + 3) F) (B : Bl mg) (C : Cs ⟨K, w, cl⟩ mg) (cdv : Value) (A : Around) (outer : List Env) (s : Shared) (H : Hp) (E : XK) (hr : Room (k + 3) (cxOf (L2N.CX P w) P w K mg base ["minds", "facts", "thing", "sizes", "event"] "size_of_deed" (defScope (top 31)) fa cdv A outer s H E).A) (tk : L2N.Takes (cxOf (L2N.CX P w) P w K mg base ["minds", "facts", "thing", "sizes", "event"] "size_of_deed" (defScope (top 31)) fa cdv A outer s H E) (fun cls d _ H' => E cls d H')) (hp : PassesOwn (model P w) (cxOf (L2N.CX P w) P w K mg base ["minds", "facts", "thing", "sizes", "event"] "size_of_deed" (defScope (top 31)) fa cdv A outer s H E).A (cxOf (L2N.CX P w) P w K mg base ["minds", "facts", "thing", "sizes", "event"] "size_of_deed" (defScope (top 31)) fa cdv A outer s H E).env (cxOf (L2N.CX P w) P w K mg base ["minds", "facts", "thing", "sizes", "event"] "size_of_deed" (defScope (top 31)) fa cdv A outer s H E).xe) :
    SSs cl (cxOf (L2N.CX P w) P w K mg base ["minds", "facts", "thing", "sizes", "event"] "size_of_deed" (defScope (top 31)) fa cdv A outer s H E) (fun cls d _ H' => E cls d H') (defBody (top 31)) (m_size_of_deed F) := by
  have hu := units_of hr
  have hr2 := hr.mono (show 2 ≤ k + 3 by omega)
  have hr1 := hr.mono (show 1 ≤ k + 3 by omega)
  exact (ss_cons (ss_if (st_bool (sw_or (st_not (st_val (se_isi (se_var 2) (by rfl) B.isinstance_ (by rfl) B.tuple_ bb_tuple))) (sw_or (st_cmp (o_ne hu) (se_callB c_len (by rfl) B.len_ bb_len (sa_cons (se_var 2) sa_nil)) se_int (by rfl)) (sw_one_or (st_not (st_val (se_isi (se_ix (se_var 2) se_int (fun _ _ => rfl)) (by rfl) B.isinstance_ (by rfl) B.tuple_ bb_tuple))))))) (ss_one (ss_ret se_non)) ss_nil)
    (ss_cons (ss_if (st_bool (sw_or (st_not (st_chain o_le o_le se_int (se_callB c_len (by rfl) B.len_ bb_len (sa_cons (se_ix (se_var 2) se_int (fun _ _ => rfl)) sa_nil)) (se_gc C.c_EVENTS (by rfl)))) (sw_one_or (st_not (st_val (se_cl T.f_are_views hr tk (by rfl) (sa_cons (se_ix (se_var 2) se_int (fun _ _ => rfl)) (sa_cons (se_var 0) (sa_cons (se_callB c_len (by rfl) B.len_ bb_len (sa_cons (se_ix (se_var 2) se_int (fun _ _ => rfl)) sa_nil)) sa_nil))))))))) (ss_one (ss_ret se_non)) ss_nil)
    (ss_cons (ss_setLc (own := [("event", 4)]) 3 rfl sc_size_of_deed.nd (by rfl) rfl (sw_true rfl rfl rfl (by kernel_rfl)) (si_seq (se_ix (se_var 2) se_int (fun _ _ => rfl))) (blkOk_by (by kernel_rfl)) (fun _ _ _ _ _ => (sg_name 4 sc_size_of_deed.nd (by rfl) (by first | exact Or.inl rfl | exact Or.inr rfl))) (fun _ _ _ _ _ => sts_nil) (fun _ _ _ _ _ => (se_cl T.f_size_of_event hr takes0N (by rfl) (sa_cons (se_var 0) (sa_cons (se_var 1) (sa_cons (se_var 4) sa_nil))))) (by decide))
    (ss_one (ss_ret (se_if (st_cmp (o_in hu) se_non (se_var 3) (by rfl)) se_non (se_cl T.f_sizes_of hr tk (by rfl) (sa_cons (se_var 3) sa_nil))))))))
def m_good_saying (F : Nat → FN) : ES :=
  (sSeq (sSet 3 (eCl 3 (F 4) (aCons (eVar 0) (aCons (eVar 1) (aCons (eVar 2) aNil)))))
    (sRet (eAnd (eOp vNotN (eVar 3) (eC .none)) (eAnd (eOp (pur2 (dI iLe)) (eOp vIx (eVar 3) (eC (.int 0))) (eC (.int 12))) (eOp (pur2 (dI iLe)) (eOp vIx (eVar 3) (eC (.int 1))) (eC (.int 3)))))))
theorem sc_good_saying : FnScope ["minds", "facts", "thing", "size"] ["minds", "facts", "thing"] (defScope (top 32)) := ⟨rfl, rfl, rfl, by decide +kernel, rfl, by decide +kernel, by decide +kernel⟩
theorem b_good_saying (T : Tb cl P w K mg base (k + 3) F) (B : Bl mg) (C : Cs ⟨K, w, cl⟩ mg) (cdv : Value) (A : Around) (outer : List Env) (s : Shared) (H : Hp) (E : XK) (hr : Room (k + 3) (cxOf (L2N.CX P w) P w K mg base ["minds", "facts", "thing", "size"] "good_saying" (defScope (top 32)) fa cdv A outer s H E).A) (tk : L2N.Takes (cxOf (L2N.CX P w) P w K mg base ["minds", "facts", "thing", "size"] "good_saying" (defScope (top 32)) fa cdv A outer s H E) (fun cls d _ H' => E cls d H')) (hp : PassesOwn (model P w) (cxOf (L2N.CX P w) P w K mg base ["minds", "facts", "thing", "size"] "good_saying" (defScope (top 32)) fa cdv A outer s H E).A (cxOf (L2N.CX P w) P w K mg base ["minds", "facts", "thing", "size"] "good_saying" (defScope (top 32)) fa cdv A outer s H E).env (cxOf (L2N.CX P w) P w K mg base ["minds", "facts", "thing", "size"] "good_saying" (defScope (top 32)) fa cdv A outer s H E).xe) :
    SSs cl (cxOf (L2N.CX P w) P w K mg base ["minds", "facts", "thing", "size"] "good_saying" (defScope (top 32)) fa cdv A outer s H E) (fun cls d _ H' => E cls d H') (defBody (top 32)) (m_good_saying F) := by
  have hu := units_of hr
  have hr2 := hr.mono (show 2 ≤ k + 3 by omega)
  have hr1 := hr.mono (show 1 ≤ k + 3 by omega)
  exact (ss_cons (ss_set 3 sc_good_saying.nd (by rfl) (by first | exact Or.inl rfl | exact Or.inr rfl) (se_cl T.f_size_of hr tk (by rfl) (sa_cons (se_var 0) (sa_cons (se_var 1) (sa_cons (se_var 2) sa_nil)))))
    (ss_one (ss_ret (se_and (se_cmp o_isnot (se_var 3) se_non (by rfl)) (se_and (se_cmp o_le (se_ix (se_var 3) se_int (fun _ _ => rfl)) (se_gc C.c_DEEP (by rfl)) (by rfl)) (se_one (se_cmp o_le (se_ix (se_var 3) se_int (fun _ _ => rfl)) (se_gc C.c_AFTER (by rfl)) (by rfl))))))))
def m_is_saying (F : Nat → FN) : ES :=
  (sRet (eCl 3 (F 8) (aCons (eVar 0) (aCons (eVar 1) (aCons (eVar 2) aNil)))))
theorem sc_is_saying : FnScope ["minds", "facts", "thing"] ["minds", "facts", "thing"] (defScope (top 33)) := ⟨rfl, rfl, rfl, by decide +kernel, rfl, by decide +kernel, by decide +kernel⟩
theorem b_is_saying (T : Tb cl P w K mg base (k + 3) F) (B : Bl mg) (C : Cs ⟨K, w, cl⟩ mg) (cdv : Value) (A : Around) (outer : List Env) (s : Shared) (H : Hp) (E : XK) (hr : Room (k + 3) (cxOf (L2N.CX P w) P w K mg base ["minds", "facts", "thing"] "is_saying" (defScope (top 33)) fa cdv A outer s H E).A) (tk : L2N.Takes (cxOf (L2N.CX P w) P w K mg base ["minds", "facts", "thing"] "is_saying" (defScope (top 33)) fa cdv A outer s H E) (fun cls d _ H' => E cls d H')) (hp : PassesOwn (model P w) (cxOf (L2N.CX P w) P w K mg base ["minds", "facts", "thing"] "is_saying" (defScope (top 33)) fa cdv A outer s H E).A (cxOf (L2N.CX P w) P w K mg base ["minds", "facts", "thing"] "is_saying" (defScope (top 33)) fa cdv A outer s H E).env (cxOf (L2N.CX P w) P w K mg base ["minds", "facts", "thing"] "is_saying" (defScope (top 33)) fa cdv A outer s H E).xe) :
    SSs cl (cxOf (L2N.CX P w) P w K mg base ["minds", "facts", "thing"] "is_saying" (defScope (top 33)) fa cdv A outer s H E) (fun cls d _ H' => E cls d H') (defBody (top 33)) (m_is_saying F) := by
  have hu := units_of hr
  have hr2 := hr.mono (show 2 ≤ k + 3 by omega)
  have hr1 := hr.mono (show 1 ≤ k + 3 by omega)
  exact (ss_one (ss_ret (se_cl T.f_good_saying hr tk (by rfl) (sa_cons (se_var 0) (sa_cons (se_var 1) (sa_cons (se_var 2) sa_nil))))))
def m_saying_text (F : Nat → FN) : ES :=
  (sSeq (sIf (eTst (eOp vEq (eOp vIx (eVar 0) (eC (.int 0))) (eC (.str "fact")))) (sRet (eJoinF [(eC (.str "fact ")), (eFmt (eOp vIx (eVar 0) (eC (.int 1))))] Str.empty)) sNx)
    (sSeq (sSet 1 (eOp vAdd (eLst (aCons (eOp vIx (eVar 0) (eC (.int 0))) aNil)) (eIf (eTst (eOp vIn (eOp vIx (eVar 0) (eC (.int 0))) (eTup (aCons (eC (.str "holds")) (aCons (eC (.str "may")) aNil))))) (eLst (aCons (eCB bStrI (aCons (eOp vIx (eVar 0) (eC (.int 1))) aNil)) aNil)) (eLst aNil))))
    (sSeq (sSet 2 (eIf (eTst (eOp vIn (eOp vIx (eVar 0) (eC (.int 0))) (eTup (aCons (eC (.str "and")) (aCons (eC (.str "or")) aNil))))) (eSl (eVar 0) (oSome (eC (.int 1))) oNone) (eSl (eVar 0) (oSome (eNeg (eC (.int 1)))) oNone)))
    (sRet (eJoin (eC (.str " ")) (eOp vAdd (eVar 1) (eLc [3] (.nm 3) (iSeq (eVar 2)) kYes (eCl 1 (F 10) (aCons (eVar 3) aNil)))))))))
theorem sc_saying_text : FnScope ["saying", "head", "rest", "one"] ["saying"] (defScope (top 38)) := ⟨rfl, rfl, rfl, by decide +kernel, rfl, by decide +kernel, by decide +kernel⟩
theorem b_saying_text (T : Tb cl P w K mg base (k + 3) F) (B : Bl mg) (C : Cs ⟨K, w, cl⟩ mg) (cdv : Value) (A : Around) (outer : List Env) (s : Shared) (H : Hp) (E : XK) (hr : Room (k + 3) (cxOf (L2N.CX P w) P w K mg base ["saying", "head", "rest", "one"] "saying_text" (defScope (top 38)) fa cdv A outer s H E).A) (tk : L2N.Takes (cxOf (L2N.CX P w) P w K mg base ["saying", "head", "rest", "one"] "saying_text" (defScope (top 38)) fa cdv A outer s H E) (fun cls d _ H' => E cls d H')) (hp : PassesOwn (model P w) (cxOf (L2N.CX P w) P w K mg base ["saying", "head", "rest", "one"] "saying_text" (defScope (top 38)) fa cdv A outer s H E).A (cxOf (L2N.CX P w) P w K mg base ["saying", "head", "rest", "one"] "saying_text" (defScope (top 38)) fa cdv A outer s H E).env (cxOf (L2N.CX P w) P w K mg base ["saying", "head", "rest", "one"] "saying_text" (defScope (top 38)) fa cdv A outer s H E).xe) :
    SSs cl (cxOf (L2N.CX P w) P w K mg base ["saying", "head", "rest", "one"] "saying_text" (defScope (top 38)) fa cdv A outer s H E) (fun cls d _ H' => E cls d H') (defBody (top 38)) (m_saying_text F) := by
  have hu := units_of hr
  have hr2 := hr.mono (show 2 ≤ k + 3 by omega)
  have hr1 := hr.mono (show 1 ≤ k + 3 by omega)
  exact (ss_cons (ss_if (st_cmp (o_eq hu) (se_ix (se_var 0) se_int (fun _ _ => rfl)) se_str (by rfl)) (ss_one (ss_ret (se_joined (.cons se_str (.cons (se_fmt (se_ix (se_var 0) se_int (fun _ _ => rfl))) .nil))))) ss_nil)
    (ss_cons (ss_set 1 sc_saying_text.nd (by rfl) (by first | exact Or.inl rfl | exact Or.inr rfl) (se_op o_add (se_lst (sa_cons (se_ix (se_var 0) se_int (fun _ _ => rfl)) sa_nil)) (se_if (st_cmp (o_in hu) (se_ix (se_var 0) se_int (fun _ _ => rfl)) (se_tup (sa_cons se_str (sa_cons se_str sa_nil))) (by rfl)) (se_lst (sa_cons (se_callTy c_strI (by rfl) B.str_ bb_str (sa_cons (se_ix (se_var 0) se_int (fun _ _ => rfl)) sa_nil)) sa_nil)) (se_lst sa_nil))))
    (ss_cons (ss_set 2 sc_saying_text.nd (by rfl) (by first | exact Or.inl rfl | exact Or.inr rfl) (se_if (st_cmp (o_in hu) (se_ix (se_var 0) se_int (fun _ _ => rfl)) (se_tup (sa_cons se_str (sa_cons se_str sa_nil))) (by rfl)) (se_slice (se_var 0) (so_some se_int) so_none) (se_slice (se_var 0) (so_some (se_neg se_int)) so_none)))
    (ss_one (ss_ret (se_join se_str (se_op o_add (se_var 1) (se_lc (own := [("one", 3)]) rfl sc_saying_text.nd (si_seq (se_var 2)) (blkOk_by (by kernel_rfl)) (fun _ _ _ _ _ => (sg_name 3 sc_saying_text.nd (by rfl) (by first | exact Or.inl rfl | exact Or.inr rfl))) (fun _ _ _ _ _ => sts_nil) (fun _ _ _ _ _ => (se_cl T.f_saying_text hr takes0N (by rfl) (sa_cons (se_var 3) sa_nil))) (by decide)))))))))
def m_shown (F : Nat → FN) : ES :=
  (sSeq (sIf (kOr (kNot (eTst (eCl 3 (F 8) (aCons (eC (.int 3)) (aCons (eC (.int 4)) (aCons (eVar 0) aNil)))))) (eTst (eOp (pur2 (dI iGt)) (eOp vIx (eCl 3 (F 4) (aCons (eC (.int 3)) (aCons (eC (.int 4)) (aCons (eVar 0) aNil)))) (eC (.int 1))) (eC (.int 0))))) (sRaise1 4 (eVar 0)) sNx)
    (sRet (eCl 1 (F 10) (aCons (eVar 0) aNil))))
theorem sc_shown : FnScope ["saying"] ["saying"] (defScope (top 39)) := ⟨rfl, rfl, rfl, by decide +kernel, rfl, by decide +kernel, by decide +kernel⟩
theorem b_shown (T : Tb cl P w K mg base (k + 3) F) (B : Bl mg) (C : Cs ⟨K, w, cl⟩ mg) (cdv : Value) (A : Around) (outer : List Env) (s : Shared) (H : Hp) (E : XK) (hr : Room (k + 3) (cxOf (L2N.CX P w) P w K mg base ["saying"] "shown" (defScope (top 39)) fa cdv A outer s H E).A) (tk : L2N.Takes (cxOf (L2N.CX P w) P w K mg base ["saying"] "shown" (defScope (top 39)) fa cdv A outer s H E) (fun cls d _ H' => E cls d H')) (hp : PassesOwn (model P w) (cxOf (L2N.CX P w) P w K mg base ["saying"] "shown" (defScope (top 39)) fa cdv A outer s H E).A (cxOf (L2N.CX P w) P w K mg base ["saying"] "shown" (defScope (top 39)) fa cdv A outer s H E).env (cxOf (L2N.CX P w) P w K mg base ["saying"] "shown" (defScope (top 39)) fa cdv A outer s H E).xe) :
    SSs cl (cxOf (L2N.CX P w) P w K mg base ["saying"] "shown" (defScope (top 39)) fa cdv A outer s H E) (fun cls d _ H' => E cls d H') (defBody (top 39)) (m_shown F) := by
  have hu := units_of hr
  have hr2 := hr.mono (show 2 ≤ k + 3 by omega)
  have hr1 := hr.mono (show 1 ≤ k + 3 by omega)
  exact (ss_cons (ss_if (st_bool (sw_or (st_not (st_val (se_cl T.f_good_saying hr tk (by rfl) (sa_cons (se_gc C.c_MINDS (by rfl)) (sa_cons (se_gc C.c_FACTS (by rfl)) (sa_cons (se_var 0) sa_nil)))))) (sw_one_or (st_cmp o_gt (se_ix (se_cl T.f_size_of hr tk (by rfl) (sa_cons (se_gc C.c_MINDS (by rfl)) (sa_cons (se_gc C.c_FACTS (by rfl)) (sa_cons (se_var 0) sa_nil)))) se_int (fun _ _ => rfl)) se_int (by rfl))))) (ss_one (ss_raiseI 4 T.i4 rfl (T.xt.o 4 (by decide) (by decide)) (T.xt.f 4 (by decide) (by decide)) (T.xt.g 4 (by decide)) hr2 rfl tk (by rfl) (se_var 0))) ss_nil)
    (ss_one (ss_ret (se_cl T.f_saying_text hr tk (by rfl) (sa_cons (se_var 0) sa_nil)))))
def m_number_in (F : Nat → FN) : ES :=
  (sSeq (sIf (kOr (eTst (eOp vEq (eVar 0) (eC (.str "")))) (kOr (eTst (eOp (pur2 (dI iGt)) (eCB bLenS (aCons (eVar 0) aNil)) (eC (.int 3)))) (kOr (kNot (eTst (eCB bAll (aCons (eLc [1] (.nm 1) (iTxt (eVar 0)) kYes (eOp vInSg (eVar 1) (eC (.str "0123456789")))) aNil)))) (eTst (eOp vNe (eVar 0) (eCB bStrI (aCons (eCB bIntS (aCons (eVar 0) aNil)) aNil))))))) (sRet (eC .none)) sNx)
    (sRet (eCB bIntS (aCons (eVar 0) aNil))))
theorem sc_number_in : FnScope ["word", "sign"] ["word"] (defScope (top 40)) := ⟨rfl, rfl, rfl, by decide +kernel, rfl, by decide +kernel, by decide +kernel⟩
theorem b_number_in (T : Tb cl P w K mg base (k + 3) F) (B : Bl mg) (C : Cs ⟨K, w, cl⟩ mg) (cdv : Value) (A : Around) (outer : List Env) (s : Shared) (H : Hp) (E : XK) (hr : Room (k + 3) (cxOf (L2N.CX P w) P w K mg base ["word", "sign"] "number_in" (defScope (top 40)) fa cdv A outer s H E).A) (tk : L2N.Takes (cxOf (L2N.CX P w) P w K mg base ["word", "sign"] "number_in" (defScope (top 40)) fa cdv A outer s H E) (fun cls d _ H' => E cls d H')) (hp : PassesOwn (model P w) (cxOf (L2N.CX P w) P w K mg base ["word", "sign"] "number_in" (defScope (top 40)) fa cdv A outer s H E).A (cxOf (L2N.CX P w) P w K mg base ["word", "sign"] "number_in" (defScope (top 40)) fa cdv A outer s H E).env (cxOf (L2N.CX P w) P w K mg base ["word", "sign"] "number_in" (defScope (top 40)) fa cdv A outer s H E).xe) :
    SSs cl (cxOf (L2N.CX P w) P w K mg base ["word", "sign"] "number_in" (defScope (top 40)) fa cdv A outer s H E) (fun cls d _ H' => E cls d H') (defBody (top 40)) (m_number_in F) := by
  have hu := units_of hr
  have hr2 := hr.mono (show 2 ≤ k + 3 by omega)
  have hr1 := hr.mono (show 1 ≤ k + 3 by omega)
  exact (ss_cons (ss_if (st_bool (sw_or (st_cmp (o_eq hu) (se_var 0) se_str (by rfl)) (sw_or (st_cmp o_gt (se_callB c_lenS (by rfl) B.len_ bb_len (sa_cons (se_var 0) sa_nil)) se_int (by rfl)) (sw_or (st_not (st_val (se_callB (c_all rfl) (by rfl) B.all_ bb_all (sa_cons (se_lc (own := [("sign", 1)]) rfl sc_number_in.nd (si_txt (se_var 0)) (blkOk_by (by kernel_rfl)) (fun _ _ _ _ _ => (sg_name 1 sc_number_in.nd (by rfl) (by first | exact Or.inl rfl | exact Or.inr rfl))) (fun _ _ _ _ _ => sts_nil) (fun _ _ _ _ _ => (se_cmp o_inSg (se_var 1) (se_gc C.c_FIGURES (by rfl)) (by rfl))) (by decide)) sa_nil)))) (sw_one_or (st_cmp (o_ne hu) (se_var 0) (se_callTy c_strI (by rfl) B.str_ bb_str (sa_cons (se_callTy c_intS (by rfl) B.int_ bb_int (sa_cons (se_var 0) sa_nil)) sa_nil)) (by rfl))))))) (ss_one (ss_ret se_non)) ss_nil)
    (ss_one (ss_ret (se_callTy c_intS (by rfl) B.int_ bb_int (sa_cons (se_var 0) sa_nil)))))
def m_part_of (F : Nat → FN) : ES :=
  (sSeq (sIf (kOr (eTst (eOp (pur2 (dI iGe)) (eVar 1) (eCB bLen (aCons (eVar 0) aNil)))) (eTst (eOp vEq (eVar 2) (eC (.int 0))))) (sRet (eC .none)) sNx)
    (sSeq (sParN [3, 4] (aCons (eOp vIx (eVar 0) (eVar 1)) (aCons (eLstR (aCons (eOp vIx (eVar 0) (eVar 1)) aNil)) aNil)))
    (sSeq (sSet 1 (eOp vAdd (eVar 1) (eC (.int 1))))
    (sSeq (sIf (eTst (eOp vIn (eVar 3) (eTup (aCons (eC (.str "fact")) (aCons (eC (.str "holds")) (aCons (eC (.str "may")) aNil)))))) (sSeq (sSet 5 (eIf (eTst (eOp (pur2 (dI iLt)) (eVar 1) (eCB bLen (aCons (eVar 0) aNil)))) (eCl 1 (F 12) (aCons (eOp vIx (eVar 0) (eVar 1)) aNil)) (eC .none)))
    (sSeq (sIf (eTst (eOp vIsN (eVar 5) (eC .none))) (sRet (eC .none)) sNx)
    (sSeq (sExpr (eAppend (eVar 4) (eVar 5)))
    (sSet 1 (eOp vAdd (eVar 1) (eC (.int 1))))))) sNx)
    (sSeq (sSet 6 (eLitGet [("fact", 0), ("and", 2), ("or", 2), ("not", 1), ("holds", 1), ("may", 1), ("all", 1), ("common", 1)] (eVar 3)))
    (sSeq (sIf (eTst (eOp vIsN (eVar 6) (eC .none))) (sRet (eC .none)) sNx)
    (sSeq (sFor (.nm 7) (iRange (aCons (eVar 6) aNil)) (sSeq (sSet 8 (eCl 3 (F 13) (aCons (eVar 0) (aCons (eVar 1) (aCons (eOp (pur2 (dI iSub)) (eVar 2) (eC (.int 1))) aNil)))))
    (sSeq (sIf (eTst (eOp vIsN (eVar 8) (eC .none))) (sRet (eC .none)) sNx)
    (sSeq (sExpr (eAppend (eVar 4) (eOp vIx (eVar 8) (eC (.int 0)))))
    (sSet 1 (eOp vIx (eVar 8) (eC (.int 1))))))))
    (sRet (eTup (aCons (eCB bTuple (aCons (eVar 4) aNil)) (aCons (eVar 1) aNil)))))))))))
theorem sc_part_of : FnScope ["words", "at", "deep", "word", "made", "number", "many", "turn", "found"] ["words", "at", "deep"] (defScope (top 41)) := ⟨rfl, rfl, rfl, by decide +kernel, rfl, by decide +kernel, by decide +kernel⟩
theorem b_part_of (T : Tb cl P w K mg base (k + 3) F) (B : Bl mg) (C : Cs ⟨K, w, cl⟩ mg) (cdv : Value) (A : Around) (outer : List Env) (s : Shared) (H : Hp) (E : XK) (hr : Room (k + 3) (cxOf (L2N.CX P w) P w K mg base ["words", "at", "deep", "word", "made", "number", "many", "turn", "found"] "part_of" (defScope (top 41)) fa cdv A outer s H E).A) (tk : L2N.Takes (cxOf (L2N.CX P w) P w K mg base ["words", "at", "deep", "word", "made", "number", "many", "turn", "found"] "part_of" (defScope (top 41)) fa cdv A outer s H E) (fun cls d _ H' => E cls d H')) (hp : PassesOwn (model P w) (cxOf (L2N.CX P w) P w K mg base ["words", "at", "deep", "word", "made", "number", "many", "turn", "found"] "part_of" (defScope (top 41)) fa cdv A outer s H E).A (cxOf (L2N.CX P w) P w K mg base ["words", "at", "deep", "word", "made", "number", "many", "turn", "found"] "part_of" (defScope (top 41)) fa cdv A outer s H E).env (cxOf (L2N.CX P w) P w K mg base ["words", "at", "deep", "word", "made", "number", "many", "turn", "found"] "part_of" (defScope (top 41)) fa cdv A outer s H E).xe) :
    SSs cl (cxOf (L2N.CX P w) P w K mg base ["words", "at", "deep", "word", "made", "number", "many", "turn", "found"] "part_of" (defScope (top 41)) fa cdv A outer s H E) (fun cls d _ H' => E cls d H') (defBody (top 41)) (m_part_of F) := by
  have hu := units_of hr
  have hr2 := hr.mono (show 2 ≤ k + 3 by omega)
  have hr1 := hr.mono (show 1 ≤ k + 3 by omega)
  exact (ss_cons (ss_if (st_bool (sw_or (st_cmp o_ge (se_var 1) (se_callB c_len (by rfl) B.len_ bb_len (sa_cons (se_var 0) sa_nil)) (by rfl)) (sw_one_or (st_cmp (o_eq hu) (se_var 2) se_int (by rfl))))) (ss_one (ss_ret se_non)) ss_nil)
    (ss_cons (ss_par 3 4 rfl sc_part_of.nd (by rfl) (by rfl) (by decide) rfl rfl (sa_cons (se_ix (se_var 0) (se_var 1) (fun _ _ => rfl)) (sa_cons (se_lstR (sa_cons (se_ix (se_var 0) (se_var 1) (fun _ _ => rfl)) sa_nil)) sa_nil)) (by rfl))
    (ss_cons (ss_set 1 sc_part_of.nd (by rfl) (by first | exact Or.inl rfl | exact Or.inr rfl) (se_op o_add (se_var 1) se_int))
    (ss_cons (ss_if (st_cmp (o_in hu) (se_var 3) (se_tup (sa_cons se_str (sa_cons se_str (sa_cons se_str sa_nil)))) (by rfl)) (ss_cons (ss_set 5 sc_part_of.nd (by rfl) (by first | exact Or.inl rfl | exact Or.inr rfl) (se_if (st_cmp o_lt (se_var 1) (se_callB c_len (by rfl) B.len_ bb_len (sa_cons (se_var 0) sa_nil)) (by rfl)) (se_cl T.f_number_in hr tk (by rfl) (sa_cons (se_ix (se_var 0) (se_var 1) (fun _ _ => rfl)) sa_nil)) se_non))
    (ss_cons (ss_if (st_cmp o_is (se_var 5) se_non (by rfl)) (ss_one (ss_ret se_non)) ss_nil)
    (ss_cons (ss_expr (se_append (se_var 4) (se_var 5)))
    (ss_one (ss_set 1 sc_part_of.nd (by rfl) (by first | exact Or.inl rfl | exact Or.inr rfl) (se_op o_add (se_var 1) se_int)))))) ss_nil)
    (ss_cons (ss_set 6 sc_part_of.nd (by rfl) (by first | exact Or.inl rfl | exact Or.inr rfl) (se_litget hu (.cons (.cons (.cons (.cons (.cons (.cons (.cons (.cons .nil)))))))) (by simp) (by decide) (se_var 3) ⟨rfl, rfl, rfl, rfl⟩))
    (ss_cons (ss_if (st_cmp o_is (se_var 6) se_non (by rfl)) (ss_one (ss_ret se_non)) ss_nil)
    (ss_cons (ss_for hp rfl (si_range (by rfl) B.range_ (sa_cons (se_var 6) sa_nil)) (sg_name 7 sc_part_of.nd (by rfl) (by first | exact Or.inl rfl | exact Or.inr rfl)) (ss_cons (ss_set 8 sc_part_of.nd (by rfl) (by first | exact Or.inl rfl | exact Or.inr rfl) (se_cl T.f_part_of hr tk (by rfl) (sa_cons (se_var 0) (sa_cons (se_var 1) (sa_cons (se_op o_sub (se_var 2) se_int) sa_nil)))))
    (ss_cons (ss_if (st_cmp o_is (se_var 8) se_non (by rfl)) (ss_one (ss_ret se_non)) ss_nil)
    (ss_cons (ss_expr (se_append (se_var 4) (se_ix (se_var 8) se_int (fun _ _ => rfl))))
    (ss_one (ss_set 1 sc_part_of.nd (by rfl) (by first | exact Or.inl rfl | exact Or.inr rfl) (se_ix (se_var 8) se_int (fun _ _ => rfl))))))))
    (ss_one (ss_ret (se_tup (sa_cons (se_callTy c_tuple (by rfl) B.tuple_ bb_tuple (sa_cons (se_var 4) sa_nil)) (sa_cons (se_var 1) sa_nil))))))))))))
def m_read (F : Nat → FN) : ES :=
  (sSeq (sIf (kNot (eTst (eIsi "str" (eVar 0)))) (sRaise0 11) sNx)
    (sSeq (sSet 1 (eSplit (eVar 0) (eC (.str " "))))
    (sSeq (sSet 2 (eCl 3 (F 13) (aCons (eVar 1) (aCons (eC (.int 0)) (aCons (eC (.int 12)) aNil)))))
    (sSeq (sIf (kOr (eTst (eOp vIsN (eVar 2) (eC .none))) (kOr (eTst (eOp (pur2 (dI iLt)) (eOp vIx (eVar 2) (eC (.int 1))) (eCB bLen (aCons (eVar 1) aNil)))) (kNot (eTst (eCl 3 (F 8) (aCons (eC (.int 3)) (aCons (eC (.int 4)) (aCons (eOp vIx (eVar 2) (eC (.int 0))) aNil)))))))) (sRaise0 11) sNx)
    (sRet (eOp vIx (eVar 2) (eC (.int 0))))))))
theorem sc_read : FnScope ["text", "words", "found"] ["text"] (defScope (top 42)) := ⟨rfl, rfl, rfl, by decide +kernel, rfl, by decide +kernel, by decide +kernel⟩
theorem b_read (T : Tb cl P w K mg base (k + 3) F) (B : Bl mg) (C : Cs ⟨K, w, cl⟩ mg) (cdv : Value) (A : Around) (outer : List Env) (s : Shared) (H : Hp) (E : XK) (hr : Room (k + 3) (cxOf (L2N.CX P w) P w K mg base ["text", "words", "found"] "read" (defScope (top 42)) fa cdv A outer s H E).A) (tk : L2N.Takes (cxOf (L2N.CX P w) P w K mg base ["text", "words", "found"] "read" (defScope (top 42)) fa cdv A outer s H E) (fun cls d _ H' => E cls d H')) (hp : PassesOwn (model P w) (cxOf (L2N.CX P w) P w K mg base ["text", "words", "found"] "read" (defScope (top 42)) fa cdv A outer s H E).A (cxOf (L2N.CX P w) P w K mg base ["text", "words", "found"] "read" (defScope (top 42)) fa cdv A outer s H E).env (cxOf (L2N.CX P w) P w K mg base ["text", "words", "found"] "read" (defScope (top 42)) fa cdv A outer s H E).xe) :
    SSs cl (cxOf (L2N.CX P w) P w K mg base ["text", "words", "found"] "read" (defScope (top 42)) fa cdv A outer s H E) (fun cls d _ H' => E cls d H') (defBody (top 42)) (m_read F) := by
  have hu := units_of hr
  have hr2 := hr.mono (show 2 ≤ k + 3 by omega)
  have hr1 := hr.mono (show 1 ≤ k + 3 by omega)
  exact (ss_cons (ss_if (st_not (st_val (se_isi (se_var 0) (by rfl) B.isinstance_ (by rfl) B.str_ bb_str))) (ss_one (ss_raise0 T.xt 11 (by decide) (by decide) (by decide) rfl rfl tk (by rfl))) ss_nil)
    (ss_cons (ss_set 1 sc_read.nd (by rfl) (by first | exact Or.inl rfl | exact Or.inr rfl) (se_split (se_var 0) se_str))
    (ss_cons (ss_set 2 sc_read.nd (by rfl) (by first | exact Or.inl rfl | exact Or.inr rfl) (se_cl T.f_part_of hr tk (by rfl) (sa_cons (se_var 1) (sa_cons se_int (sa_cons (se_gc C.c_DEEP (by rfl)) sa_nil)))))
    (ss_cons (ss_if (st_bool (sw_or (st_cmp o_is (se_var 2) se_non (by rfl)) (sw_or (st_cmp o_lt (se_ix (se_var 2) se_int (fun _ _ => rfl)) (se_callB c_len (by rfl) B.len_ bb_len (sa_cons (se_var 1) sa_nil)) (by rfl)) (sw_one_or (st_not (st_val (se_cl T.f_good_saying hr tk (by rfl) (sa_cons (se_gc C.c_MINDS (by rfl)) (sa_cons (se_gc C.c_FACTS (by rfl)) (sa_cons (se_ix (se_var 2) se_int (fun _ _ => rfl)) sa_nil)))))))))) (ss_one (ss_raise0 T.xt 11 (by decide) (by decide) (by decide) rfl rfl tk (by rfl))) ss_nil)
    (ss_one (ss_ret (se_ix (se_var 2) se_int (fun _ _ => rfl))))))))
def m__law_cell_at (F : Nat → FN) : ES :=
  (sSeq (sIf (eTst (eOp (pur2 (dI iLt)) (eVar 1) (eCB bLen (aCons (eVar 0) aNil)))) (sRet (eOp vIx (eVar 0) (eVar 1))) sNx)
    (sSeq (sIf (eTst (eOp vEq (eVar 0) (eLst aNil))) (sRet (eC (.int 0))) sNx)
    (sSeq (sSet 2 (eOp vIx (eVar 0) (eOp (pur2 (dI iMod)) (eVar 1) (eCB bLen (aCons (eVar 0) aNil)))))
    (sSeq (sFor (.nm 3) (iRange (aCons (eCB bMin (aCons (eOp (pur2 (dI iDiv)) (eVar 1) (eCB bLen (aCons (eVar 0) aNil))) (aCons (eC (.int 60)) aNil))) aNil)) (sSet 2 (eOp (pur2 (dI iDiv)) (eVar 2) (eC (.int 1000003)))))
    (sRet (eOp vAdd (eOp vAdd (eOp vMul (eOp vIx (eVar 0) (eOp (pur2 (dI iMod)) (eVar 1) (eCB bLen (aCons (eVar 0) aNil)))) (eC (.int 31))) (eVar 1)) (eOp vMul (eVar 2) (eC (.int 101)))))))))
theorem sc__law_cell_at : FnScope ["script", "k", "rest", "again"] ["script", "k"] (defScope (top 44)) := ⟨rfl, rfl, rfl, by decide +kernel, rfl, by decide +kernel, by decide +kernel⟩
theorem b__law_cell_at (T : Tb cl P w K mg base (k + 3) F) (B : Bl mg) (C : Cs ⟨K, w, cl⟩ mg) (cdv : Value) (A : Around) (outer : List Env) (s : Shared) (H : Hp) (E : XK) (hr : Room (k + 3) (cxOf (L2N.CX P w) P w K mg base ["script", "k", "rest", "again"] "_law_cell_at" (defScope (top 44)) fa cdv A outer s H E).A) (tk : L2N.Takes (cxOf (L2N.CX P w) P w K mg base ["script", "k", "rest", "again"] "_law_cell_at" (defScope (top 44)) fa cdv A outer s H E) (fun cls d _ H' => E cls d H')) (hp : PassesOwn (model P w) (cxOf (L2N.CX P w) P w K mg base ["script", "k", "rest", "again"] "_law_cell_at" (defScope (top 44)) fa cdv A outer s H E).A (cxOf (L2N.CX P w) P w K mg base ["script", "k", "rest", "again"] "_law_cell_at" (defScope (top 44)) fa cdv A outer s H E).env (cxOf (L2N.CX P w) P w K mg base ["script", "k", "rest", "again"] "_law_cell_at" (defScope (top 44)) fa cdv A outer s H E).xe) :
    SSs cl (cxOf (L2N.CX P w) P w K mg base ["script", "k", "rest", "again"] "_law_cell_at" (defScope (top 44)) fa cdv A outer s H E) (fun cls d _ H' => E cls d H') (defBody (top 44)) (m__law_cell_at F) := by
  have hu := units_of hr
  have hr2 := hr.mono (show 2 ≤ k + 3 by omega)
  have hr1 := hr.mono (show 1 ≤ k + 3 by omega)
  exact (ss_cons (ss_if (st_cmp o_lt (se_var 1) (se_callB c_len (by rfl) B.len_ bb_len (sa_cons (se_var 0) sa_nil)) (by rfl)) (ss_one (ss_ret (se_ix (se_var 0) (se_var 1) (fun _ _ => rfl)))) ss_nil)
    (ss_cons (ss_if (st_cmp (o_eq hu) (se_var 0) (se_lst sa_nil) (by rfl)) (ss_one (ss_ret se_int)) ss_nil)
    (ss_cons (ss_set 2 sc__law_cell_at.nd (by rfl) (by first | exact Or.inl rfl | exact Or.inr rfl) (se_ix (se_var 0) (se_op o_mod (se_var 1) (se_callB c_len (by rfl) B.len_ bb_len (sa_cons (se_var 0) sa_nil))) (fun _ _ => rfl)))
    (ss_cons (ss_for hp rfl (si_range (by rfl) B.range_ (sa_cons (se_callB (c_min rfl) (by rfl) B.min_ bb_min (sa_cons (se_op o_div (se_var 1) (se_callB c_len (by rfl) B.len_ bb_len (sa_cons (se_var 0) sa_nil))) (sa_cons se_int sa_nil))) sa_nil)) (sg_name 3 sc__law_cell_at.nd (by rfl) (by first | exact Or.inl rfl | exact Or.inr rfl)) (ss_one (ss_set 2 sc__law_cell_at.nd (by rfl) (by first | exact Or.inl rfl | exact Or.inr rfl) (se_op o_div (se_var 2) se_int))))
    (ss_one (ss_ret (se_op o_add (se_op o_add (se_op o_mul (se_ix (se_var 0) (se_op o_mod (se_var 1) (se_callB c_len (by rfl) B.len_ bb_len (sa_cons (se_var 0) sa_nil))) (fun _ _ => rfl)) se_int) (se_var 1)) (se_op o_mul (se_var 2) se_int))))))))
def m__law_mixed (F : Nat → FN) : ES :=
  (sSeq (sSet 3 (eOp (pur2 (dI iMod)) (eOp vAdd (eOp vAdd (eOp vMul (eCl 2 (F 15) (aCons (eVar 0) (aCons (eVar 1) aNil))) (eC (.int 1103515245))) (eOp vMul (eC (.int 7919)) (eVar 1))) (eC (.int 12345))) (eC (.int 2147483647))))
    (sRet (eOp (pur2 (dI iMod)) (eOp (pur2 (dI iMod)) (eOp (pur2 (dI iMod)) (eOp (pur2 (dI iPow)) (eVar 3) (eC (.int 5))) (eC (.int 2147483647))) (eC (.int 999983))) (eVar 2))))
theorem sc__law_mixed : FnScope ["script", "k", "bound", "drawn"] ["script", "k", "bound"] (defScope (top 45)) := ⟨rfl, rfl, rfl, by decide +kernel, rfl, by decide +kernel, by decide +kernel⟩
theorem b__law_mixed (T : Tb cl P w K mg base (k + 3) F) (B : Bl mg) (C : Cs ⟨K, w, cl⟩ mg) (cdv : Value) (A : Around) (outer : List Env) (s : Shared) (H : Hp) (E : XK) (hr : Room (k + 3) (cxOf (L2N.CX P w) P w K mg base ["script", "k", "bound", "drawn"] "_law_mixed" (defScope (top 45)) fa cdv A outer s H E).A) (tk : L2N.Takes (cxOf (L2N.CX P w) P w K mg base ["script", "k", "bound", "drawn"] "_law_mixed" (defScope (top 45)) fa cdv A outer s H E) (fun cls d _ H' => E cls d H')) (hp : PassesOwn (model P w) (cxOf (L2N.CX P w) P w K mg base ["script", "k", "bound", "drawn"] "_law_mixed" (defScope (top 45)) fa cdv A outer s H E).A (cxOf (L2N.CX P w) P w K mg base ["script", "k", "bound", "drawn"] "_law_mixed" (defScope (top 45)) fa cdv A outer s H E).env (cxOf (L2N.CX P w) P w K mg base ["script", "k", "bound", "drawn"] "_law_mixed" (defScope (top 45)) fa cdv A outer s H E).xe) :
    SSs cl (cxOf (L2N.CX P w) P w K mg base ["script", "k", "bound", "drawn"] "_law_mixed" (defScope (top 45)) fa cdv A outer s H E) (fun cls d _ H' => E cls d H') (defBody (top 45)) (m__law_mixed F) := by
  have hu := units_of hr
  have hr2 := hr.mono (show 2 ≤ k + 3 by omega)
  have hr1 := hr.mono (show 1 ≤ k + 3 by omega)
  exact (ss_cons (ss_set 3 sc__law_mixed.nd (by rfl) (by first | exact Or.inl rfl | exact Or.inr rfl) (se_op o_mod (se_op o_add (se_op o_add (se_op o_mul (se_cl T.f__law_cell_at hr tk (by rfl) (sa_cons (se_var 0) (sa_cons (se_var 1) sa_nil))) se_int) (se_op o_mul se_int (se_var 1))) se_int) se_int))
    (ss_one (ss_ret (se_op o_mod (se_op o_mod (se_op o_mod (se_op o_pow (se_var 3) se_int) se_int) se_int) (se_var 2)))))
def m__law_draw (F : Nat → FN) : ES :=
  (sSeq (sExpr (eAppend (eVar 1) (eC (.int 0))))
    (sRet (eCl 3 (F 16) (aCons (eVar 0) (aCons (eCB bLen (aCons (eVar 1) aNil)) (aCons (eVar 2) aNil))))))
theorem sc__law_draw : FnScope ["script", "town", "bound"] ["script", "town", "bound"] (defScope (top 46)) := ⟨rfl, rfl, rfl, by decide +kernel, rfl, by decide +kernel, by decide +kernel⟩
theorem b__law_draw (T : Tb cl P w K mg base (k + 3) F) (B : Bl mg) (C : Cs ⟨K, w, cl⟩ mg) (cdv : Value) (A : Around) (outer : List Env) (s : Shared) (H : Hp) (E : XK) (hr : Room (k + 3) (cxOf (L2N.CX P w) P w K mg base ["script", "town", "bound"] "_law_draw" (defScope (top 46)) fa cdv A outer s H E).A) (tk : L2N.Takes (cxOf (L2N.CX P w) P w K mg base ["script", "town", "bound"] "_law_draw" (defScope (top 46)) fa cdv A outer s H E) (fun cls d _ H' => E cls d H')) (hp : PassesOwn (model P w) (cxOf (L2N.CX P w) P w K mg base ["script", "town", "bound"] "_law_draw" (defScope (top 46)) fa cdv A outer s H E).A (cxOf (L2N.CX P w) P w K mg base ["script", "town", "bound"] "_law_draw" (defScope (top 46)) fa cdv A outer s H E).env (cxOf (L2N.CX P w) P w K mg base ["script", "town", "bound"] "_law_draw" (defScope (top 46)) fa cdv A outer s H E).xe) :
    SSs cl (cxOf (L2N.CX P w) P w K mg base ["script", "town", "bound"] "_law_draw" (defScope (top 46)) fa cdv A outer s H E) (fun cls d _ H' => E cls d H') (defBody (top 46)) (m__law_draw F) := by
  have hu := units_of hr
  have hr2 := hr.mono (show 2 ≤ k + 3 by omega)
  have hr1 := hr.mono (show 1 ≤ k + 3 by omega)
  exact (ss_cons (ss_expr (se_append (se_var 1) se_int))
    (ss_one (ss_ret (se_cl T.f__law_mixed hr tk (by rfl) (sa_cons (se_var 0) (sa_cons (se_callB c_len (by rfl) B.len_ bb_len (sa_cons (se_var 1) sa_nil)) (sa_cons (se_var 2) sa_nil)))))))
def m__law_pick (F : Nat → FN) : ES :=
  (sRet (eOp vIx (eVar 2) (eCl 3 (F 17) (aCons (eVar 0) (aCons (eVar 1) (aCons (eCB bLen (aCons (eVar 2) aNil)) aNil))))))
theorem sc__law_pick : FnScope ["script", "town", "some"] ["script", "town", "some"] (defScope (top 47)) := ⟨rfl, rfl, rfl, by decide +kernel, rfl, by decide +kernel, by decide +kernel⟩
theorem b__law_pick (T : Tb cl P w K mg base (k + 3) F) (B : Bl mg) (C : Cs ⟨K, w, cl⟩ mg) (cdv : Value) (A : Around) (outer : List Env) (s : Shared) (H : Hp) (E : XK) (hr : Room (k + 3) (cxOf (L2N.CX P w) P w K mg base ["script", "town", "some"] "_law_pick" (defScope (top 47)) fa cdv A outer s H E).A) (tk : L2N.Takes (cxOf (L2N.CX P w) P w K mg base ["script", "town", "some"] "_law_pick" (defScope (top 47)) fa cdv A outer s H E) (fun cls d _ H' => E cls d H')) (hp : PassesOwn (model P w) (cxOf (L2N.CX P w) P w K mg base ["script", "town", "some"] "_law_pick" (defScope (top 47)) fa cdv A outer s H E).A (cxOf (L2N.CX P w) P w K mg base ["script", "town", "some"] "_law_pick" (defScope (top 47)) fa cdv A outer s H E).env (cxOf (L2N.CX P w) P w K mg base ["script", "town", "some"] "_law_pick" (defScope (top 47)) fa cdv A outer s H E).xe) :
    SSs cl (cxOf (L2N.CX P w) P w K mg base ["script", "town", "some"] "_law_pick" (defScope (top 47)) fa cdv A outer s H E) (fun cls d _ H' => E cls d H') (defBody (top 47)) (m__law_pick F) := by
  have hu := units_of hr
  have hr2 := hr.mono (show 2 ≤ k + 3 by omega)
  have hr1 := hr.mono (show 1 ≤ k + 3 by omega)
  exact (ss_one (ss_ret (se_ix (se_var 2) (se_cl T.f__law_draw hr tk (by rfl) (sa_cons (se_var 0) (sa_cons (se_var 1) (sa_cons (se_callB c_len (by rfl) B.len_ bb_len (sa_cons (se_var 2) sa_nil)) sa_nil)))) (fun _ _ => rfl))))
def m__law_plain (F : Nat → FN) : ES :=
  (sSeq (sSet 5 (eCl 3 (F 17) (aCons (eVar 0) (aCons (eVar 1) (aCons (eC (.int 9)) aNil)))))
    (sSeq (sIf (kOr (eTst (eOp vEq (eVar 4) (eC (.int 1)))) (eTst (eOp vEq (eVar 5) (eC (.int 0))))) (sRet (eTup (aCons (eC (.str "fact")) (aCons (eCl 3 (F 17) (aCons (eVar 0) (aCons (eVar 1) (aCons (eVar 3) aNil)))) aNil)))) sNx)
    (sSeq (sSet 6 (eCl 5 (F 19) (aCons (eVar 0) (aCons (eVar 1) (aCons (eVar 2) (aCons (eVar 3) (aCons (eOp (pur2 (dI iSub)) (eVar 4) (eC (.int 1))) aNil)))))))
    (sSeq (sIf (eTst (eOp (pur2 (dI iLt)) (eVar 5) (eC (.int 3)))) (sRet (eTup (aCons (eC (.str "not")) (aCons (eVar 6) aNil)))) sNx)
    (sSeq (sIf (eTst (eOp (pur2 (dI iLt)) (eVar 5) (eC (.int 6)))) (sRet (eTup (aCons (eCl 3 (F 18) (aCons (eVar 0) (aCons (eVar 1) (aCons (eLst (aCons (eC (.str "holds")) (aCons (eC (.str "holds")) (aCons (eC (.str "may")) aNil)))) aNil)))) (aCons (eCl 3 (F 17) (aCons (eVar 0) (aCons (eVar 1) (aCons (eVar 2) aNil)))) (aCons (eVar 6) aNil))))) sNx)
    (sSeq (sIf (eTst (eOp vEq (eVar 5) (eC (.int 6)))) (sRet (eTup (aCons (eCl 3 (F 18) (aCons (eVar 0) (aCons (eVar 1) (aCons (eLst (aCons (eC (.str "all")) (aCons (eC (.str "common")) aNil))) aNil)))) (aCons (eVar 6) aNil)))) sNx)
    (sRet (eTup (aCons (eCl 3 (F 18) (aCons (eVar 0) (aCons (eVar 1) (aCons (eLst (aCons (eC (.str "and")) (aCons (eC (.str "or")) aNil))) aNil)))) (aCons (eVar 6) (aCons (eCl 5 (F 19) (aCons (eVar 0) (aCons (eVar 1) (aCons (eVar 2) (aCons (eVar 3) (aCons (eOp (pur2 (dI iSub)) (eVar 4) (eC (.int 1))) aNil)))))) aNil)))))))))))
theorem sc__law_plain : FnScope ["script", "town", "minds", "facts", "deep", "word", "inner"] ["script", "town", "minds", "facts", "deep"] (defScope (top 48)) := ⟨rfl, rfl, rfl, by decide +kernel, rfl, by decide +kernel, by decide +kernel⟩
theorem b__law_plain (T : Tb cl P w K mg base (k + 3) F) (B : Bl mg) (C : Cs ⟨K, w, cl⟩ mg) (cdv : Value) (A : Around) (outer : List Env) (s : Shared) (H : Hp) (E : XK) (hr : Room (k + 3) (cxOf (L2N.CX P w) P w K mg base ["script", "town", "minds", "facts", "deep", "word", "inner"] "_law_plain" (defScope (top 48)) fa cdv A outer s H E).A) (tk : L2N.Takes (cxOf (L2N.CX P w) P w K mg base ["script", "town", "minds", "facts", "deep", "word", "inner"] "_law_plain" (defScope (top 48)) fa cdv A outer s H E) (fun cls d _ H' => E cls d H')) (hp : PassesOwn (model P w) (cxOf (L2N.CX P w) P w K mg base ["script", "town", "minds", "facts", "deep", "word", "inner"] "_law_plain" (defScope (top 48)) fa cdv A outer s H E).A (cxOf (L2N.CX P w) P w K mg base ["script", "town", "minds", "facts", "deep", "word", "inner"] "_law_plain" (defScope (top 48)) fa cdv A outer s H E).env (cxOf (L2N.CX P w) P w K mg base ["script", "town", "minds", "facts", "deep", "word", "inner"] "_law_plain" (defScope (top 48)) fa cdv A outer s H E).xe) :
    SSs cl (cxOf (L2N.CX P w) P w K mg base ["script", "town", "minds", "facts", "deep", "word", "inner"] "_law_plain" (defScope (top 48)) fa cdv A outer s H E) (fun cls d _ H' => E cls d H') (defBody (top 48)) (m__law_plain F) := by
  have hu := units_of hr
  have hr2 := hr.mono (show 2 ≤ k + 3 by omega)
  have hr1 := hr.mono (show 1 ≤ k + 3 by omega)
  exact (ss_cons (ss_set 5 sc__law_plain.nd (by rfl) (by first | exact Or.inl rfl | exact Or.inr rfl) (se_cl T.f__law_draw hr tk (by rfl) (sa_cons (se_var 0) (sa_cons (se_var 1) (sa_cons se_int sa_nil)))))
    (ss_cons (ss_if (st_bool (sw_or (st_cmp (o_eq hu) (se_var 4) se_int (by rfl)) (sw_one_or (st_cmp (o_eq hu) (se_var 5) se_int (by rfl))))) (ss_one (ss_ret (se_tup (sa_cons se_str (sa_cons (se_cl T.f__law_draw hr tk (by rfl) (sa_cons (se_var 0) (sa_cons (se_var 1) (sa_cons (se_var 3) sa_nil)))) sa_nil))))) ss_nil)
    (ss_cons (ss_set 6 sc__law_plain.nd (by rfl) (by first | exact Or.inl rfl | exact Or.inr rfl) (se_cl T.f__law_plain hr tk (by rfl) (sa_cons (se_var 0) (sa_cons (se_var 1) (sa_cons (se_var 2) (sa_cons (se_var 3) (sa_cons (se_op o_sub (se_var 4) se_int) sa_nil)))))))
    (ss_cons (ss_if (st_cmp o_lt (se_var 5) se_int (by rfl)) (ss_one (ss_ret (se_tup (sa_cons se_str (sa_cons (se_var 6) sa_nil))))) ss_nil)
    (ss_cons (ss_if (st_cmp o_lt (se_var 5) se_int (by rfl)) (ss_one (ss_ret (se_tup (sa_cons (se_cl T.f__law_pick hr tk (by rfl) (sa_cons (se_var 0) (sa_cons (se_var 1) (sa_cons (se_lst (sa_cons se_str (sa_cons se_str (sa_cons se_str sa_nil)))) sa_nil)))) (sa_cons (se_cl T.f__law_draw hr tk (by rfl) (sa_cons (se_var 0) (sa_cons (se_var 1) (sa_cons (se_var 2) sa_nil)))) (sa_cons (se_var 6) sa_nil)))))) ss_nil)
    (ss_cons (ss_if (st_cmp (o_eq hu) (se_var 5) se_int (by rfl)) (ss_one (ss_ret (se_tup (sa_cons (se_cl T.f__law_pick hr tk (by rfl) (sa_cons (se_var 0) (sa_cons (se_var 1) (sa_cons (se_lst (sa_cons se_str (sa_cons se_str sa_nil))) sa_nil)))) (sa_cons (se_var 6) sa_nil))))) ss_nil)
    (ss_one (ss_ret (se_tup (sa_cons (se_cl T.f__law_pick hr tk (by rfl) (sa_cons (se_var 0) (sa_cons (se_var 1) (sa_cons (se_lst (sa_cons se_str (sa_cons se_str sa_nil))) sa_nil)))) (sa_cons (se_var 6) (sa_cons (se_cl T.f__law_plain hr tk (by rfl) (sa_cons (se_var 0) (sa_cons (se_var 1) (sa_cons (se_var 2) (sa_cons (se_var 3) (sa_cons (se_op o_sub (se_var 4) se_int) sa_nil)))))) sa_nil))))))))))))
theorem sc__law_which : FnScope ["e", "own"] ["e"] (defScope (top 49)) := ⟨rfl, rfl, rfl, by decide +kernel, rfl, by decide +kernel, by decide +kernel⟩
theorem b__law_which (T : XT K mg cl (List.range 18)) (B : Bl mg) (cdv : Value) (A : Around) (outer : List Env) (s : Shared) (H : Hp) (E : XK) (A0 : Addr) (oe : Obj) (d : Option Addr) (j : Nat) (hj : j ∈ List.range 18) (hz : L2N.Zn (.ref (cl j)) d oe) (hf : ∃ vs, oe.data = .fields vs) (hr : L2H.RoomH 0 (L2H.cxH (L2N.CX P w) P w K mg base ["e", "own"] "_law_which" (defScope (top 49)) fa cdv A outer s H E (A0, oe)).A) :
    SSs cl (L2H.cxH (L2N.CX P w) P w K mg base ["e", "own"] "_law_which" (defScope (top 49)) fa cdv A outer s H E (A0, oe)) (fun cls d _ H' => E cls d H') (defBody (top 49)) (mWh A0 d j) := by
  have hu : (L2H.cxH (L2N.CX P w) P w K mg base ["e", "own"] "_law_which" (defScope (top 49)) fa cdv A outer s H E (A0, oe)).A.units + 200 < cLine := by have := hr.un; omega
  exact (ss_cons (ss_set 1 sc__law_which.nd (by rfl) (by first | exact Or.inl rfl | exact Or.inr rfl) (se_lstR (sa_cons (se_isX T hj List.mem_cons_self hz hf 1 (by decide) rfl (se_var 0) (by rfl) B.isinstance_ (by rfl)) (sa_cons (se_isX T hj List.mem_cons_self hz hf 2 (by decide) rfl (se_var 0) (by rfl) B.isinstance_ (by rfl)) (sa_cons (se_isX T hj List.mem_cons_self hz hf 3 (by decide) rfl (se_var 0) (by rfl) B.isinstance_ (by rfl)) (sa_cons (se_isX T hj List.mem_cons_self hz hf 4 (by decide) rfl (se_var 0) (by rfl) B.isinstance_ (by rfl)) sa_nil))))))
    (ss_cons (ss_expr (se_extend (se_var 1) (se_lst (sa_cons (se_isX T hj List.mem_cons_self hz hf 5 (by decide) rfl (se_var 0) (by rfl) B.isinstance_ (by rfl)) (sa_cons (se_isX T hj List.mem_cons_self hz hf 6 (by decide) rfl (se_var 0) (by rfl) B.isinstance_ (by rfl)) (sa_cons (se_isX T hj List.mem_cons_self hz hf 7 (by decide) rfl (se_var 0) (by rfl) B.isinstance_ (by rfl)) (sa_cons (se_isX T hj List.mem_cons_self hz hf 8 (by decide) rfl (se_var 0) (by rfl) B.isinstance_ (by rfl)) sa_nil)))))))
    (ss_cons (ss_expr (se_extend (se_var 1) (se_lst (sa_cons (se_isX T hj List.mem_cons_self hz hf 9 (by decide) rfl (se_var 0) (by rfl) B.isinstance_ (by rfl)) (sa_cons (se_isX T hj List.mem_cons_self hz hf 10 (by decide) rfl (se_var 0) (by rfl) B.isinstance_ (by rfl)) (sa_cons (se_isX T hj List.mem_cons_self hz hf 11 (by decide) rfl (se_var 0) (by rfl) B.isinstance_ (by rfl)) (sa_cons (se_isX T hj List.mem_cons_self hz hf 12 (by decide) rfl (se_var 0) (by rfl) B.isinstance_ (by rfl)) sa_nil)))))))
    (ss_cons (ss_expr (se_extend (se_var 1) (se_lst (sa_cons (se_isX T hj List.mem_cons_self hz hf 13 (by decide) rfl (se_var 0) (by rfl) B.isinstance_ (by rfl)) (sa_cons (se_isX T hj List.mem_cons_self hz hf 14 (by decide) rfl (se_var 0) (by rfl) B.isinstance_ (by rfl)) (sa_cons (se_isX T hj List.mem_cons_self hz hf 15 (by decide) rfl (se_var 0) (by rfl) B.isinstance_ (by rfl)) (sa_cons (se_isX T hj List.mem_cons_self hz hf 16 (by decide) rfl (se_var 0) (by rfl) B.isinstance_ (by rfl)) sa_nil)))))))
    (ss_cons (ss_expr (se_append (se_var 1) (se_isX T hj List.mem_cons_self hz hf 17 (by decide) rfl (se_var 0) (by rfl) B.isinstance_ (by rfl))))
    (ss_cons (ss_if (st_bool (sw_or (st_cmp (o_ne hu) (se_count hu (se_var 1) se_bl) se_int (by rfl)) (sw_one_or (st_not (st_val (se_isVE T hj List.mem_cons_self hz hf (se_var 0) (by rfl) B.isinstance_ (by rfl) (B.g "ValueError"))))))) (ss_one (ss_ret (se_tup (sa_cons se_str (sa_cons (se_neg se_int) sa_nil))))) ss_nil)
    (ss_one (ss_ret (se_tup (sa_cons se_str (sa_cons (se_index hu (se_var 1) se_bl) sa_nil)))))))))))
def m__law_ask (F : Nat → FN) : ES :=
  (sTry (List.range 18) 1 (sRet (eCl 1 (F 14) (aCons (eVar 0) aNil))) ((0, hWh) :: []))
theorem sc__law_ask : FnScope ["text", "e"] ["text"] (defScope (top 50)) := ⟨rfl, rfl, rfl, by decide +kernel, rfl, by decide +kernel, by decide +kernel⟩
theorem b__law_ask (T : Tb cl P w K mg base (k + 3) F) (B : Bl mg) (C : Cs ⟨K, w, cl⟩ mg) (cdv : Value) (A : Around) (outer : List Env) (s : Shared) (H : Hp) (E : XK) (hr : Room (k + 3) (cxOf (L2N.CX P w) P w K mg base ["text", "e"] "_law_ask" (defScope (top 50)) fa cdv A outer s H E).A) (tk : L2N.Takes (cxOf (L2N.CX P w) P w K mg base ["text", "e"] "_law_ask" (defScope (top 50)) fa cdv A outer s H E) (fun cls d _ H' => E cls d H')) (hp : PassesOwn (model P w) (cxOf (L2N.CX P w) P w K mg base ["text", "e"] "_law_ask" (defScope (top 50)) fa cdv A outer s H E).A (cxOf (L2N.CX P w) P w K mg base ["text", "e"] "_law_ask" (defScope (top 50)) fa cdv A outer s H E).env (cxOf (L2N.CX P w) P w K mg base ["text", "e"] "_law_ask" (defScope (top 50)) fa cdv A outer s H E).xe) :
    SSs cl (cxOf (L2N.CX P w) P w K mg base ["text", "e"] "_law_ask" (defScope (top 50)) fa cdv A outer s H E) (fun cls d _ H' => E cls d H') (defBody (top 50)) (m__law_ask F) := by
  have hu := units_of hr
  have hr2 := hr.mono (show 2 ≤ k + 3 by omega)
  have hr1 := hr.mono (show 1 ≤ k + 3 by omega)
  exact (ss_one (ss_try (i := 1) (n := "e") T.xt rfl rfl sc__law_ask.nd tk (fun W pn xe tk hp => (ss_one (ss_ret (se_cl T.f_read hr tk (by rfl) (sa_cons (se_var 0) sa_nil))))) (.named 0 (by decide) rfl (by rfl) (by decide) (he_wh T.wh hr1 (by rfl) (by rfl)) (by rfl) (by rfl) .nil)))
def m__law_text (F : Nat → FN) : ES :=
  (sSeq (sSet 1 (eLstR (aCons (eOp vIx (eVar 0) (eC (.int 0))) aNil)))
    (sSeq (sFor (.nm 2) (iSeq (eSl (eVar 0) (oSome (eC (.int 1))) oNone)) (sExpr (eAppend (eVar 1) (eIf (eTst (eIsi "tuple" (eVar 2))) (eCl 1 (F 22) (aCons (eVar 2) aNil)) (eCB bStrI (aCons (eVar 2) aNil))))))
    (sRet (eJoin (eC (.str " ")) (eVar 1)))))
theorem sc__law_text : FnScope ["saying", "made", "part"] ["saying"] (defScope (top 51)) := ⟨rfl, rfl, rfl, by decide +kernel, rfl, by decide +kernel, by decide +kernel⟩
theorem b__law_text (T : Tb cl P w K mg base (k + 3) F) (B : Bl mg) (C : Cs ⟨K, w, cl⟩ mg) (cdv : Value) (A : Around) (outer : List Env) (s : Shared) (H : Hp) (E : XK) (hr : Room (k + 3) (cxOf (L2N.CX P w) P w K mg base ["saying", "made", "part"] "_law_text" (defScope (top 51)) fa cdv A outer s H E).A) (tk : L2N.Takes (cxOf (L2N.CX P w) P w K mg base ["saying", "made", "part"] "_law_text" (defScope (top 51)) fa cdv A outer s H E) (fun cls d _ H' => E cls d H')) (hp : PassesOwn (model P w) (cxOf (L2N.CX P w) P w K mg base ["saying", "made", "part"] "_law_text" (defScope (top 51)) fa cdv A outer s H E).A (cxOf (L2N.CX P w) P w K mg base ["saying", "made", "part"] "_law_text" (defScope (top 51)) fa cdv A outer s H E).env (cxOf (L2N.CX P w) P w K mg base ["saying", "made", "part"] "_law_text" (defScope (top 51)) fa cdv A outer s H E).xe) :
    SSs cl (cxOf (L2N.CX P w) P w K mg base ["saying", "made", "part"] "_law_text" (defScope (top 51)) fa cdv A outer s H E) (fun cls d _ H' => E cls d H') (defBody (top 51)) (m__law_text F) := by
  have hu := units_of hr
  have hr2 := hr.mono (show 2 ≤ k + 3 by omega)
  have hr1 := hr.mono (show 1 ≤ k + 3 by omega)
  exact (ss_cons (ss_set 1 sc__law_text.nd (by rfl) (by first | exact Or.inl rfl | exact Or.inr rfl) (se_lstR (sa_cons (se_ix (se_var 0) se_int (fun _ _ => rfl)) sa_nil)))
    (ss_cons (ss_for hp rfl (si_seq (se_slice (se_var 0) (so_some se_int) so_none)) (sg_name 2 sc__law_text.nd (by rfl) (by first | exact Or.inl rfl | exact Or.inr rfl)) (ss_one (ss_expr (se_append (se_var 1) (se_if (st_val (se_isi (se_var 2) (by rfl) B.isinstance_ (by rfl) B.tuple_ bb_tuple)) (se_cl T.f__law_text hr tk (by rfl) (sa_cons (se_var 2) sa_nil)) (se_callTy c_strI (by rfl) B.str_ bb_str (sa_cons (se_var 2) sa_nil)))))))
    (ss_one (ss_ret (se_join se_str (se_var 1))))))
def m__law_parse (F : Nat → FN) : ES :=
  (sSeq (sIf (eTst (eOp vEq (eVar 0) (eLst aNil))) (sRet (eC .none)) sNx)
    (sSeq (sParN [1, 2] (aCons (eLstR (aCons (eOp vIx (eVar 0) (eC (.int 0))) aNil)) (aCons (eSl (eVar 0) (oSome (eC (.int 1))) oNone) aNil)))
    (sSeq (sIf (eTst (eOp vIn (eOp vIx (eVar 0) (eC (.int 0))) (eTup (aCons (eC (.str "fact")) (aCons (eC (.str "holds")) (aCons (eC (.str "may")) aNil)))))) (sSeq (sIf (kOr (eTst (eOp vEq (eVar 2) (eLst aNil))) (eTst (eOp vNin (eOp vIx (eVar 2) (eC (.int 0))) (eLst (aCons (eC (.str "0")) (aCons (eC (.str "1")) (aCons (eC (.str "2")) (aCons (eC (.str "3")) aNil)))))))) (sRet (eC .none)) sNx)
    (sSeq (sExpr (eAppend (eVar 1) (eCB bIntS (aCons (eOp vIx (eVar 2) (eC (.int 0))) aNil))))
    (sSet 2 (eSl (eVar 2) (oSome (eC (.int 1))) oNone)))) sNx)
    (sSeq (sSet 3 (eLitGet2 [("fact", 0), ("not", 1), ("and", 2), ("or", 2), ("holds", 1), ("may", 1), ("all", 1), ("common", 1)] (eOp vIx (eVar 0) (eC (.int 0))) 9))
    (sSeq (sFor (.nm 4) (iRange (aCons (eVar 3) aNil)) (sSeq (sSet 5 (eCl 1 (F 23) (aCons (eVar 2) aNil)))
    (sSeq (sIf (eTst (eOp vIsN (eVar 5) (eC .none))) (sRet (eC .none)) sNx)
    (sSeq (sExpr (eAppend (eVar 1) (eOp vIx (eVar 5) (eC (.int 0)))))
    (sSet 2 (eOp vIx (eVar 5) (eC (.int 1))))))))
    (sRet (eTup (aCons (eCB bTuple (aCons (eVar 1) aNil)) (aCons (eVar 2) aNil)))))))))
theorem sc__law_parse : FnScope ["words", "made", "rest", "many", "again", "got"] ["words"] (defScope (top 52)) := ⟨rfl, rfl, rfl, by decide +kernel, rfl, by decide +kernel, by decide +kernel⟩
theorem b__law_parse (T : Tb cl P w K mg base (k + 3) F) (B : Bl mg) (C : Cs ⟨K, w, cl⟩ mg) (cdv : Value) (A : Around) (outer : List Env) (s : Shared) (H : Hp) (E : XK) (hr : Room (k + 3) (cxOf (L2N.CX P w) P w K mg base ["words", "made", "rest", "many", "again", "got"] "_law_parse" (defScope (top 52)) fa cdv A outer s H E).A) (tk : L2N.Takes (cxOf (L2N.CX P w) P w K mg base ["words", "made", "rest", "many", "again", "got"] "_law_parse" (defScope (top 52)) fa cdv A outer s H E) (fun cls d _ H' => E cls d H')) (hp : PassesOwn (model P w) (cxOf (L2N.CX P w) P w K mg base ["words", "made", "rest", "many", "again", "got"] "_law_parse" (defScope (top 52)) fa cdv A outer s H E).A (cxOf (L2N.CX P w) P w K mg base ["words", "made", "rest", "many", "again", "got"] "_law_parse" (defScope (top 52)) fa cdv A outer s H E).env (cxOf (L2N.CX P w) P w K mg base ["words", "made", "rest", "many", "again", "got"] "_law_parse" (defScope (top 52)) fa cdv A outer s H E).xe) :
    SSs cl (cxOf (L2N.CX P w) P w K mg base ["words", "made", "rest", "many", "again", "got"] "_law_parse" (defScope (top 52)) fa cdv A outer s H E) (fun cls d _ H' => E cls d H') (defBody (top 52)) (m__law_parse F) := by
  have hu := units_of hr
  have hr2 := hr.mono (show 2 ≤ k + 3 by omega)
  have hr1 := hr.mono (show 1 ≤ k + 3 by omega)
  exact (ss_cons (ss_if (st_cmp (o_eq hu) (se_var 0) (se_lst sa_nil) (by rfl)) (ss_one (ss_ret se_non)) ss_nil)
    (ss_cons (ss_par 1 2 rfl sc__law_parse.nd (by rfl) (by rfl) (by decide) rfl rfl (sa_cons (se_lstR (sa_cons (se_ix (se_var 0) se_int (fun _ _ => rfl)) sa_nil)) (sa_cons (se_slice (se_var 0) (so_some se_int) so_none) sa_nil)) (by rfl))
    (ss_cons (ss_if (st_cmp (o_in hu) (se_ix (se_var 0) se_int (fun _ _ => rfl)) (se_tup (sa_cons se_str (sa_cons se_str (sa_cons se_str sa_nil)))) (by rfl)) (ss_cons (ss_if (st_bool (sw_or (st_cmp (o_eq hu) (se_var 2) (se_lst sa_nil) (by rfl)) (sw_one_or (st_cmp (o_nin hu) (se_ix (se_var 2) se_int (fun _ _ => rfl)) (se_lst (sa_cons se_str (sa_cons se_str (sa_cons se_str (sa_cons se_str sa_nil))))) (by rfl))))) (ss_one (ss_ret se_non)) ss_nil)
    (ss_cons (ss_expr (se_append (se_var 1) (se_callTy c_intS (by rfl) B.int_ bb_int (sa_cons (se_ix (se_var 2) se_int (fun _ _ => rfl)) sa_nil))))
    (ss_one (ss_set 2 sc__law_parse.nd (by rfl) (by first | exact Or.inl rfl | exact Or.inr rfl) (se_slice (se_var 2) (so_some se_int) so_none))))) ss_nil)
    (ss_cons (ss_set 3 sc__law_parse.nd (by rfl) (by first | exact Or.inl rfl | exact Or.inr rfl) (se_litget2 hu (.cons (.cons (.cons (.cons (.cons (.cons (.cons (.cons .nil)))))))) (by simp) (by decide) (se_ix (se_var 0) se_int (fun _ _ => rfl)) ⟨rfl, rfl, rfl, rfl⟩))
    (ss_cons (ss_for hp rfl (si_range (by rfl) B.range_ (sa_cons (se_var 3) sa_nil)) (sg_name 4 sc__law_parse.nd (by rfl) (by first | exact Or.inl rfl | exact Or.inr rfl)) (ss_cons (ss_set 5 sc__law_parse.nd (by rfl) (by first | exact Or.inl rfl | exact Or.inr rfl) (se_cl T.f__law_parse hr tk (by rfl) (sa_cons (se_var 2) sa_nil)))
    (ss_cons (ss_if (st_cmp o_is (se_var 5) se_non (by rfl)) (ss_one (ss_ret se_non)) ss_nil)
    (ss_cons (ss_expr (se_append (se_var 1) (se_ix (se_var 5) se_int (fun _ _ => rfl))))
    (ss_one (ss_set 2 sc__law_parse.nd (by rfl) (by first | exact Or.inl rfl | exact Or.inr rfl) (se_ix (se_var 5) se_int (fun _ _ => rfl))))))))
    (ss_one (ss_ret (se_tup (sa_cons (se_callTy c_tuple (by rfl) B.tuple_ bb_tuple (sa_cons (se_var 1) sa_nil)) (sa_cons (se_var 2) sa_nil))))))))))
def m_law (F : Nat → FN) : ES :=
  (sSeq (sSet 1 (eLstR aNil))
    (sSeq (sSet 2 (eCl 5 (F 19) (aCons (eVar 0) (aCons (eVar 1) (aCons (eC (.int 3)) (aCons (eC (.int 4)) (aCons (eC (.int 5)) aNil)))))))
    (sSeq (sSet 3 (eCl 1 (F 22) (aCons (eVar 2) aNil)))
    (sSeq (sIf (kOr (eTst (eOp vNe (eCl 1 (F 11) (aCons (eVar 2) aNil)) (eVar 3))) (eTst (eOp vNe (eCl 1 (F 21) (aCons (eVar 3) aNil)) (eVar 2)))) (sRet (eC (.bool false))) sNx)
    (sSeq (sFor (.nm 4) (iRange (aCons (eC (.int 4)) aNil)) (sSeq (sSet 5 (eSplitR (eVar 3) (eC (.str " "))))
    (sSeq (sSet 6 (eCl 3 (F 17) (aCons (eVar 0) (aCons (eVar 1) (aCons (eCB bLen (aCons (eVar 5) aNil)) aNil)))))
    (sSeq (sSet 7 (eLst (aCons (eC (.str "not")) (aCons (eC (.str "and")) (aCons (eC (.str "fact")) (aCons (eC (.str "0")) (aCons (eC (.str "3")) (aCons (eC (.str "4")) (aCons (eC (.str "fact 1")) (aCons (eC (.str "all")) (aCons (eC (.str "holds 2")) (aCons (eC (.str "know")) (aCons (eC (.str "")) (aCons (eC (.str "may 3")) (aCons (eC (.str "02")) aNil)))))))))))))))
    (sSeq (sSet 8 (eCl 3 (F 18) (aCons (eVar 0) (aCons (eVar 1) (aCons (eVar 7) aNil)))))
    (sSeq (sSlPut (eVar 5) (oSome (eVar 6)) (oSome (eOp vAdd (eVar 6) (eCl 3 (F 17) (aCons (eVar 0) (aCons (eVar 1) (aCons (eC (.int 2)) aNil)))))) (eLst (aCons (eVar 8) aNil)))
    (sSeq (sSet 9 (eJoin (eC (.str " ")) (eVar 5)))
    (sSeq (sSet 10 (eCl 1 (F 23) (aCons (eSplit (eVar 9) (eC (.str " "))) aNil)))
    (sSeq (sSet 11 (eAnd (eOp vNotN (eVar 10) (eC .none)) (eAnd (eOp vEq (eOp vIx (eVar 10) (eC (.int 1))) (eLst aNil)) (eCl 3 (F 9) (aCons (eC (.int 3)) (aCons (eC (.int 4)) (aCons (eOp vIx (eVar 10) (eC (.int 0))) aNil)))))))
    (sIf (eTst (eOp vNe (eCl 1 (F 21) (aCons (eVar 9) aNil)) (eIf (eTst (eVar 11)) (eOp vIx (eVar 10) (eC (.int 0))) (eTup (aCons (eC (.str "refused")) (aCons (eC (.int 10)) aNil)))))) (sRet (eC (.bool false))) sNx))))))))))
    (sRet (eAnd (eOp vEq (eCl 1 (F 21) (aCons (eOp vAdd (eVar 3) (eC (.str " "))) aNil)) (eTup (aCons (eC (.str "refused")) (aCons (eC (.int 10)) aNil)))) (eOp vEq (eCl 1 (F 21) (aCons (eOp vAdd (eC (.str " ")) (eVar 3)) aNil)) (eTup (aCons (eC (.str "refused")) (aCons (eC (.int 10)) aNil)))))))))))
theorem sc_law : FnScope ["script", "town", "saying", "text", "again", "words", "at", "some", "new", "spoilt", "got", "due"] ["script"] (defScope (top 53)) := ⟨rfl, rfl, rfl, by decide +kernel, rfl, by decide +kernel, by decide +kernel⟩
theorem b_law (T : Tb cl P w K mg base (k + 3) F) (B : Bl mg) (C : Cs ⟨K, w, cl⟩ mg) (cdv : Value) (A : Around) (outer : List Env) (s : Shared) (H : Hp) (E : XK) (hr : Room (k + 3) (cxOf (L2N.CX P w) P w K mg base ["script", "town", "saying", "text", "again", "words", "at", "some", "new", "spoilt", "got", "due"] "law" (defScope (top 53)) fa cdv A outer s H E).A) (tk : L2N.Takes (cxOf (L2N.CX P w) P w K mg base ["script", "town", "saying", "text", "again", "words", "at", "some", "new", "spoilt", "got", "due"] "law" (defScope (top 53)) fa cdv A outer s H E) (fun cls d _ H' => E cls d H')) (hp : PassesOwn (model P w) (cxOf (L2N.CX P w) P w K mg base ["script", "town", "saying", "text", "again", "words", "at", "some", "new", "spoilt", "got", "due"] "law" (defScope (top 53)) fa cdv A outer s H E).A (cxOf (L2N.CX P w) P w K mg base ["script", "town", "saying", "text", "again", "words", "at", "some", "new", "spoilt", "got", "due"] "law" (defScope (top 53)) fa cdv A outer s H E).env (cxOf (L2N.CX P w) P w K mg base ["script", "town", "saying", "text", "again", "words", "at", "some", "new", "spoilt", "got", "due"] "law" (defScope (top 53)) fa cdv A outer s H E).xe) :
    SSs cl (cxOf (L2N.CX P w) P w K mg base ["script", "town", "saying", "text", "again", "words", "at", "some", "new", "spoilt", "got", "due"] "law" (defScope (top 53)) fa cdv A outer s H E) (fun cls d _ H' => E cls d H') (defBody (top 53)) (m_law F) := by
  have hu := units_of hr
  have hr2 := hr.mono (show 2 ≤ k + 3 by omega)
  have hr1 := hr.mono (show 1 ≤ k + 3 by omega)
  exact (ss_cons (ss_set 1 sc_law.nd (by rfl) (by first | exact Or.inl rfl | exact Or.inr rfl) (se_lstR sa_nil))
    (ss_cons (ss_set 2 sc_law.nd (by rfl) (by first | exact Or.inl rfl | exact Or.inr rfl) (se_cl T.f__law_plain hr tk (by rfl) (sa_cons (se_var 0) (sa_cons (se_var 1) (sa_cons se_int (sa_cons se_int (sa_cons se_int sa_nil)))))))
    (ss_cons (ss_set 3 sc_law.nd (by rfl) (by first | exact Or.inl rfl | exact Or.inr rfl) (se_cl T.f__law_text hr tk (by rfl) (sa_cons (se_var 2) sa_nil)))
    (ss_cons (ss_if (st_bool (sw_or (st_cmp (o_ne hu) (se_cl T.f_shown hr tk (by rfl) (sa_cons (se_var 2) sa_nil)) (se_var 3) (by rfl)) (sw_one_or (st_cmp (o_ne hu) (se_cl T.f__law_ask hr tk (by rfl) (sa_cons (se_var 3) sa_nil)) (se_var 2) (by rfl))))) (ss_one (ss_ret se_bl)) ss_nil)
    (ss_cons (ss_for hp rfl (si_range (by rfl) B.range_ (sa_cons se_int sa_nil)) (sg_name 4 sc_law.nd (by rfl) (by first | exact Or.inl rfl | exact Or.inr rfl)) (ss_cons (ss_set 5 sc_law.nd (by rfl) (by first | exact Or.inl rfl | exact Or.inr rfl) (se_splitR (se_var 3) se_str))
    (ss_cons (ss_set 6 sc_law.nd (by rfl) (by first | exact Or.inl rfl | exact Or.inr rfl) (se_cl T.f__law_draw hr tk (by rfl) (sa_cons (se_var 0) (sa_cons (se_var 1) (sa_cons (se_callB c_len (by rfl) B.len_ bb_len (sa_cons (se_var 5) sa_nil)) sa_nil)))))
    (ss_cons (ss_set 7 sc_law.nd (by rfl) (by first | exact Or.inl rfl | exact Or.inr rfl) (se_lst (sa_cons se_str (sa_cons se_str (sa_cons se_str (sa_cons se_str (sa_cons se_str (sa_cons se_str (sa_cons se_str (sa_cons se_str (sa_cons se_str (sa_cons se_str (sa_cons se_str (sa_cons se_str (sa_cons se_str sa_nil)))))))))))))))
    (ss_cons (ss_set 8 sc_law.nd (by rfl) (by first | exact Or.inl rfl | exact Or.inr rfl) (se_cl T.f__law_pick hr tk (by rfl) (sa_cons (se_var 0) (sa_cons (se_var 1) (sa_cons (se_var 7) sa_nil)))))
    (ss_cons (ss_slput (se_var 5) (so_some (se_var 6)) (so_some (se_op o_add (se_var 6) (se_cl T.f__law_draw hr tk (by rfl) (sa_cons (se_var 0) (sa_cons (se_var 1) (sa_cons se_int sa_nil)))))) (se_lst (sa_cons (se_var 8) sa_nil)) (by rfl))
    (ss_cons (ss_set 9 sc_law.nd (by rfl) (by first | exact Or.inl rfl | exact Or.inr rfl) (se_join se_str (se_var 5)))
    (ss_cons (ss_set 10 sc_law.nd (by rfl) (by first | exact Or.inl rfl | exact Or.inr rfl) (se_cl T.f__law_parse hr tk (by rfl) (sa_cons (se_split (se_var 9) se_str) sa_nil)))
    (ss_cons (ss_set 11 sc_law.nd (by rfl) (by first | exact Or.inl rfl | exact Or.inr rfl) (se_and (se_cmp o_isnot (se_var 10) se_non (by rfl)) (se_and (se_cmp (o_eq hu) (se_ix (se_var 10) se_int (fun _ _ => rfl)) (se_lst sa_nil) (by rfl)) (se_one (se_cl T.f_is_saying hr tk (by rfl) (sa_cons se_int (sa_cons se_int (sa_cons (se_ix (se_var 10) se_int (fun _ _ => rfl)) sa_nil))))))))
    (ss_one (ss_if (st_cmp (o_ne hu) (se_cl T.f__law_ask hr tk (by rfl) (sa_cons (se_var 9) sa_nil)) (se_if (st_val (se_var 11)) (se_ix (se_var 10) se_int (fun _ _ => rfl)) (se_tup (sa_cons se_str (sa_cons se_int sa_nil)))) (by rfl)) (ss_one (ss_ret se_bl)) ss_nil)))))))))))
    (ss_one (ss_ret (se_and (se_cmp (o_eq hu) (se_cl T.f__law_ask hr tk (by rfl) (sa_cons (se_op o_add (se_var 3) se_str) sa_nil)) (se_tup (sa_cons se_str (sa_cons se_int sa_nil))) (by rfl)) (se_one (se_cmp (o_eq hu) (se_cl T.f__law_ask hr tk (by rfl) (sa_cons (se_op o_add se_str (se_var 3)) sa_nil)) (se_tup (sa_cons se_str (sa_cons se_int sa_nil))) (by rfl)))))))))))
end
def bodies (F : Nat → FN) : Nat → FN
  | 0 => runF 3 3 (m_is_whole F)
  | 1 => runF 4 2 (m_are_numbers F)
  | 2 => runF 5 3 (m_are_views F)
  | 3 => runF 2 1 (m_sizes_of F)
  | 4 => runF 9 3 (m_size_of F)
  | 5 => runF 7 3 (m_size_after F)
  | 6 => runF 6 3 (m_size_of_event F)
  | 7 => runF 5 3 (m_size_of_deed F)
  | 8 => runF 4 3 (m_good_saying F)
  | 9 => runF 3 3 (m_is_saying F)
  | 10 => runF 4 1 (m_saying_text F)
  | 11 => runF 1 1 (m_shown F)
  | 12 => runF 2 1 (m_number_in F)
  | 13 => runF 9 3 (m_part_of F)
  | 14 => runF 3 1 (m_read F)
  | 15 => runF 4 2 (m__law_cell_at F)
  | 16 => runF 4 3 (m__law_mixed F)
  | 17 => runF 3 3 (m__law_draw F)
  | 18 => runF 3 3 (m__law_pick F)
  | 19 => runF 7 5 (m__law_plain F)
  | 21 => runF 2 1 (m__law_ask F)
  | 22 => runF 3 1 (m__law_text F)
  | 23 => runF 6 1 (m__law_parse F)
  | 24 => runF 12 1 (m_law F)
  | _ => fun _ _ => .bad
def Fs : Nat → Nat → FN
  | 0 => fun _ _ _ => .bad
  | n + 1 => bodies (Fs n)
abbrev i_is_whole : Nat := 0
theorem e_is_whole (n : Nat) (a0 a1 a2 : Val) (st : Sto) : Fs (n + 1) i_is_whole [a0, a1, a2] st = (m_is_whole (Fs n) [some a0, some a1, some a2] st).fin0 st.length := (show Fs (n + 1) i_is_whole [a0, a1, a2] st = runF 3 3 (m_is_whole (Fs n)) [a0, a1, a2] st from rfl).trans (runF_eq 3 3 _ _ _ rfl)
abbrev i_sizes_of : Nat := 3
theorem e_sizes_of (n : Nat) (a0 : Val) (st : Sto) : Fs (n + 1) i_sizes_of [a0] st = (m_sizes_of (Fs n) [some a0, none] st).fin0 st.length := (show Fs (n + 1) i_sizes_of [a0] st = runF 2 1 (m_sizes_of (Fs n)) [a0] st from rfl).trans (runF_eq 2 1 _ _ _ rfl)
abbrev i_size_of : Nat := 4
theorem e_size_of (n : Nat) (a0 a1 a2 : Val) (st : Sto) : Fs (n + 1) i_size_of [a0, a1, a2] st = (m_size_of (Fs n) [some a0, some a1, some a2, none, none, none, none, none, none] st).fin0 st.length := (show Fs (n + 1) i_size_of [a0, a1, a2] st = runF 9 3 (m_size_of (Fs n)) [a0, a1, a2] st from rfl).trans (runF_eq 9 3 _ _ _ rfl)
abbrev i_size_after : Nat := 5
theorem e_size_after (n : Nat) (a0 a1 a2 : Val) (st : Sto) : Fs (n + 1) i_size_after [a0, a1, a2] st = (m_size_after (Fs n) [some a0, some a1, some a2, none, none, none, none] st).fin0 st.length := (show Fs (n + 1) i_size_after [a0, a1, a2] st = runF 7 3 (m_size_after (Fs n)) [a0, a1, a2] st from rfl).trans (runF_eq 7 3 _ _ _ rfl)
abbrev i_good_saying : Nat := 8
theorem e_good_saying (n : Nat) (a0 a1 a2 : Val) (st : Sto) : Fs (n + 1) i_good_saying [a0, a1, a2] st = (m_good_saying (Fs n) [some a0, some a1, some a2, none] st).fin0 st.length := (show Fs (n + 1) i_good_saying [a0, a1, a2] st = runF 4 3 (m_good_saying (Fs n)) [a0, a1, a2] st from rfl).trans (runF_eq 4 3 _ _ _ rfl)
abbrev i_is_saying : Nat := 9
theorem e_is_saying (n : Nat) (a0 a1 a2 : Val) (st : Sto) : Fs (n + 1) i_is_saying [a0, a1, a2] st = (m_is_saying (Fs n) [some a0, some a1, some a2] st).fin0 st.length := (show Fs (n + 1) i_is_saying [a0, a1, a2] st = runF 3 3 (m_is_saying (Fs n)) [a0, a1, a2] st from rfl).trans (runF_eq 3 3 _ _ _ rfl)
abbrev i_saying_text : Nat := 10
theorem e_saying_text (n : Nat) (a0 : Val) (st : Sto) : Fs (n + 1) i_saying_text [a0] st = (m_saying_text (Fs n) [some a0, none, none, none] st).fin0 st.length := (show Fs (n + 1) i_saying_text [a0] st = runF 4 1 (m_saying_text (Fs n)) [a0] st from rfl).trans (runF_eq 4 1 _ _ _ rfl)
abbrev i_shown : Nat := 11
theorem e_shown (n : Nat) (a0 : Val) (st : Sto) : Fs (n + 1) i_shown [a0] st = (m_shown (Fs n) [some a0] st).fin0 st.length := (show Fs (n + 1) i_shown [a0] st = runF 1 1 (m_shown (Fs n)) [a0] st from rfl).trans (runF_eq 1 1 _ _ _ rfl)
abbrev i_number_in : Nat := 12
theorem e_number_in (n : Nat) (a0 : Val) (st : Sto) : Fs (n + 1) i_number_in [a0] st = (m_number_in (Fs n) [some a0, none] st).fin0 st.length := (show Fs (n + 1) i_number_in [a0] st = runF 2 1 (m_number_in (Fs n)) [a0] st from rfl).trans (runF_eq 2 1 _ _ _ rfl)
abbrev i_part_of : Nat := 13
theorem e_part_of (n : Nat) (a0 a1 a2 : Val) (st : Sto) : Fs (n + 1) i_part_of [a0, a1, a2] st = (m_part_of (Fs n) [some a0, some a1, some a2, none, none, none, none, none, none] st).fin0 st.length := (show Fs (n + 1) i_part_of [a0, a1, a2] st = runF 9 3 (m_part_of (Fs n)) [a0, a1, a2] st from rfl).trans (runF_eq 9 3 _ _ _ rfl)
abbrev i_read : Nat := 14
theorem e_read (n : Nat) (a0 : Val) (st : Sto) : Fs (n + 1) i_read [a0] st = (m_read (Fs n) [some a0, none, none] st).fin0 st.length := (show Fs (n + 1) i_read [a0] st = runF 3 1 (m_read (Fs n)) [a0] st from rfl).trans (runF_eq 3 1 _ _ _ rfl)
abbrev i__law_cell_at : Nat := 15
theorem e__law_cell_at (n : Nat) (a0 a1 : Val) (st : Sto) : Fs (n + 1) i__law_cell_at [a0, a1] st = (m__law_cell_at (Fs n) [some a0, some a1, none, none] st).fin0 st.length := (show Fs (n + 1) i__law_cell_at [a0, a1] st = runF 4 2 (m__law_cell_at (Fs n)) [a0, a1] st from rfl).trans (runF_eq 4 2 _ _ _ rfl)
abbrev i__law_mixed : Nat := 16
theorem e__law_mixed (n : Nat) (a0 a1 a2 : Val) (st : Sto) : Fs (n + 1) i__law_mixed [a0, a1, a2] st = (m__law_mixed (Fs n) [some a0, some a1, some a2, none] st).fin0 st.length := (show Fs (n + 1) i__law_mixed [a0, a1, a2] st = runF 4 3 (m__law_mixed (Fs n)) [a0, a1, a2] st from rfl).trans (runF_eq 4 3 _ _ _ rfl)
abbrev i__law_draw : Nat := 17
theorem e__law_draw (n : Nat) (a0 a1 a2 : Val) (st : Sto) : Fs (n + 1) i__law_draw [a0, a1, a2] st = (m__law_draw (Fs n) [some a0, some a1, some a2] st).fin0 st.length := (show Fs (n + 1) i__law_draw [a0, a1, a2] st = runF 3 3 (m__law_draw (Fs n)) [a0, a1, a2] st from rfl).trans (runF_eq 3 3 _ _ _ rfl)
abbrev i__law_pick : Nat := 18
theorem e__law_pick (n : Nat) (a0 a1 a2 : Val) (st : Sto) : Fs (n + 1) i__law_pick [a0, a1, a2] st = (m__law_pick (Fs n) [some a0, some a1, some a2] st).fin0 st.length := (show Fs (n + 1) i__law_pick [a0, a1, a2] st = runF 3 3 (m__law_pick (Fs n)) [a0, a1, a2] st from rfl).trans (runF_eq 3 3 _ _ _ rfl)
abbrev i__law_plain : Nat := 19
theorem e__law_plain (n : Nat) (a0 a1 a2 a3 a4 : Val) (st : Sto) : Fs (n + 1) i__law_plain [a0, a1, a2, a3, a4] st = (m__law_plain (Fs n) [some a0, some a1, some a2, some a3, some a4, none, none] st).fin0 st.length := (show Fs (n + 1) i__law_plain [a0, a1, a2, a3, a4] st = runF 7 5 (m__law_plain (Fs n)) [a0, a1, a2, a3, a4] st from rfl).trans (runF_eq 7 5 _ _ _ rfl)
abbrev i__law_ask : Nat := 21
theorem e__law_ask (n : Nat) (a0 : Val) (st : Sto) : Fs (n + 1) i__law_ask [a0] st = (m__law_ask (Fs n) [some a0, none] st).fin0 st.length := (show Fs (n + 1) i__law_ask [a0] st = runF 2 1 (m__law_ask (Fs n)) [a0] st from rfl).trans (runF_eq 2 1 _ _ _ rfl)
abbrev i__law_text : Nat := 22
theorem e__law_text (n : Nat) (a0 : Val) (st : Sto) : Fs (n + 1) i__law_text [a0] st = (m__law_text (Fs n) [some a0, none, none] st).fin0 st.length := (show Fs (n + 1) i__law_text [a0] st = runF 3 1 (m__law_text (Fs n)) [a0] st from rfl).trans (runF_eq 3 1 _ _ _ rfl)
abbrev i__law_parse : Nat := 23
theorem e__law_parse (n : Nat) (a0 : Val) (st : Sto) : Fs (n + 1) i__law_parse [a0] st = (m__law_parse (Fs n) [some a0, none, none, none, none, none] st).fin0 st.length := (show Fs (n + 1) i__law_parse [a0] st = runF 6 1 (m__law_parse (Fs n)) [a0] st from rfl).trans (runF_eq 6 1 _ _ _ rfl)
abbrev i_law : Nat := 24
theorem e_law (n : Nat) (a0 : Val) (st : Sto) : Fs (n + 1) i_law [a0] st = (m_law (Fs n) [some a0, none, none, none, none, none, none, none, none, none, none, none] st).fin0 st.length := (show Fs (n + 1) i_law [a0] st = runF 12 1 (m_law (Fs n)) [a0] st from rfl).trans (runF_eq 12 1 _ _ _ rfl)
section
end
end Lw
end

set_option maxRecDepth 100000
local macro_rules | `(tactic| simp! only [$ls,*] $[$loc]?) => `(tactic| simp only [Mi.kit_NoneType_int, Mi.kit_bool_int, Mi.kit_int_int, Mi.kit_str_int, Mi.kit_list_int, Mi.kit_tuple_int, Mi.kit_dict_int, Mi.kit_NoneType_bool, Mi.kit_bool_bool, Mi.kit_int_bool, Mi.kit_str_bool, Mi.kit_list_bool, Mi.kit_tuple_bool, Mi.kit_dict_bool, Mi.kit_NoneType_tuple, Mi.kit_bool_tuple, Mi.kit_int_tuple, Mi.kit_str_tuple, Mi.kit_list_tuple, Mi.kit_tuple_tuple, Mi.kit_dict_tuple, Mi.kit_NoneType_str, Mi.kit_bool_str, Mi.kit_int_str, Mi.kit_str_str, Mi.kit_list_str, Mi.kit_tuple_str, Mi.kit_dict_str, Mi.kit_NoneType_list, Mi.kit_bool_list, Mi.kit_int_list, Mi.kit_str_list, Mi.kit_list_list, Mi.kit_tuple_list, Mi.kit_dict_list, Mi.andS_nx, Mi.andS_rt, Mi.andS_ex, Mi.andS_bad, Mi.sSeq_eq, Mi.sNx_eq, Mi.sNever_eq, Mi.sRetN_eq, Mi.retS_ok, Mi.retS_exc, Mi.retS_bad, Mi.sRet_eq, Mi.dropS_ok, Mi.dropS_exc, Mi.sExpr_eq, Mi.setS_ok, Mi.setS_exc, Mi.sSet_eq, Mi.ifS_true, Mi.ifS_false, Mi.sIf_eq, Mi.eC_eq, Mi.op2_ok, Mi.op1_ok, Mi.eOp_eq, Mi.tst_ok, Mi.eTst_eq, Mi.aNil_eq, Mi.cons2_ok, Mi.cons1_ok, Mi.aCons_eq, Mi.cb_ok, Mi.eCB_eq, Mi.cl_ok, Mi.eCl_eq, Mi.getv_ok, Mi.eVar_eq, Mi.kand_true, Mi.kand_false, Mi.kAnd_eq, Mi.kor_true, Mi.kor_false, Mi.kOr_eq, Mi.knot_ok, Mi.kNot_eq, Mi.kYes_eq, Mi.ifE_true, Mi.ifE_false, Mi.eIf_eq, Mi.tup_ok, Mi.eTup_eq, Mi.lstD_ok, Mi.eLst_eq, Mi.lstR_ok, Mi.eLstR_eq, Mi.toDs_nil, Mi.toDs_d, Mi.isi_ok, Mi.eIsi_eq, Mi.notE_ok, Mi.eNot_eq, Mi.andE_true, Mi.andE_false, Mi.eAnd_eq, Mi.orE_true, Mi.orE_false, Mi.eOr_eq, Mi.ch3_true, Mi.ch3_false, Mi.ch2_ok, Mi.ch1_ok, Mi.eChain_eq, Mi.parS_ok, Mi.sParN_eq, Mi.listD_ok, Mi.lcE_ok, Mi.eLc_eq, Mi.seqI_list, Mi.seqI_tuple, Mi.iSeq_eq, Mi.rangeI_ok, Mi.iRange_eq, Mi.forS_ok, Mi.sFor_eq, Mi.slS3_ok, Mi.slS2_ok, Mi.slS1_ok, Mi.eSl_eq, Mi.oNone_eq, Mi.oS_ok, Mi.oSome_eq, Mi.setTS_ok, Mi.sSetT_eq, Mi.starS_ok, Mi.sStar_eq, Mi.app2_ok, Mi.app1_ok, Mi.eAppend_eq, Mi.negE_ok, Mi.eNeg_eq, Mi.fin0_nx, Mi.fin0_rt, Mi.noX_ok, Mi.w_fact_after, Mi.w_fact_holds, Mi.w_fact_may, Mi.w_fact_and, Mi.w_fact_or, Mi.w_fact_not, Mi.w_fact_all, Mi.w_fact_common, Mi.w_after_fact, Mi.w_after_holds, Mi.w_after_may, Mi.w_after_and, Mi.w_after_or, Mi.w_after_not, Mi.w_after_all, Mi.w_after_common, Mi.w_holds_fact, Mi.w_holds_after, Mi.w_holds_may, Mi.w_holds_and, Mi.w_holds_or, Mi.w_holds_not, Mi.w_holds_all, Mi.w_holds_common, Mi.w_may_fact, Mi.w_may_after, Mi.w_may_holds, Mi.w_may_and, Mi.w_may_or, Mi.w_may_not, Mi.w_may_all, Mi.w_may_common, Mi.w_and_fact, Mi.w_and_after, Mi.w_and_holds, Mi.w_and_may, Mi.w_and_or, Mi.w_and_not, Mi.w_and_all, Mi.w_and_common, Mi.w_or_fact, Mi.w_or_after, Mi.w_or_holds, Mi.w_or_may, Mi.w_or_and, Mi.w_or_not, Mi.w_or_all, Mi.w_or_common, Mi.w_not_fact, Mi.w_not_after, Mi.w_not_holds, Mi.w_not_may, Mi.w_not_and, Mi.w_not_or, Mi.w_not_all, Mi.w_not_common, Mi.w_all_fact, Mi.w_all_after, Mi.w_all_holds, Mi.w_all_may, Mi.w_all_and, Mi.w_all_or, Mi.w_all_not, Mi.w_all_common, Mi.w_common_fact, Mi.w_common_after, Mi.w_common_holds, Mi.w_common_may, Mi.w_common_and, Mi.w_common_or, Mi.w_common_not, Mi.w_common_all, Mi.eqv_int, Mi.eqv_str, Mi.eqv_tn, Mi.eqv_t0, Mi.fits_int, Mi.fits_str, Mi.plain_int, Mi.plain_str, Mi.plain_tup, Mi.plain_lst, Mi.plainAll_nil, Mi.plainAll_cons, Mi.depth_int, Mi.depth_str, Mi.depth_non, Mi.depth_bool, Mi.plain_non, Mi.plain_bool, Mi.depth_tup0, Mi.zipI_tup, Mi.zipI_lst, Mi.iZip_eq, Mi.lc2D_ok, Mi.lc2E_ok, Mi.eLc2_eq, Mi.cut_1, Mi.eDNewK_eq, Mi.eDNewN_eq, Mi.dput3_ok, Mi.dput2_ok, Mi.dput1_ok, Mi.sDPut_eq, Mi.srt_ok, Mi.sc2E_ok, Mi.eSortSc2_eq, Mi.dcd_ok, Mi.dcr_ok, Mi.dcFE_ok, Mi.dcRE_ok, Mi.eDcF_eq, Mi.eDcR_eq, Mi.popE_ok, Mi.ePop_eq, Mi.ext2_ok, Mi.ext1_ok, Mi.eExtend_eq, Mi.lrg_ok, Mi.eListRg_eq, Mi.iKeys_eq, Mi.frzE_ok, Mi.eFrz_eq, Mi.eSortSet_eq, Mi.range2I_ok, Mi.iRange2_eq, Mi.iEnumA_eq, Mi.lput3_ok, Mi.lput2_ok, Mi.lput1_ok, Mi.sLPut_eq, Mi.augS_ok, Mi.augG_ok, Mi.sAug_eq, Mi.idx1_list, Mi.eIndex_eq, Mi.frzG_r, Mi.sFrz_eq, Mi.dcdN_ok, Mi.dcrN_ok, Mi.dcNFE_ok, Mi.dcNRE_ok, Mi.eDcNF_eq, Mi.eDcNR_eq, Mi.rai_ok, Mi.sRaise1_eq, Mi.sRaise0_eq, Mi.tryS_rt, Mi.tryS_nx, Mi.sTry_eq, Mi.eCallV_eq, Mi.cv_ok, Mi.aLam_eq, Mi.al_ok, Mi.eLam_eq, Mi.lm_ok', Mi.sLock_eq, Mi.ePopN_eq, Mi.iKeysL_eq, Mi.eSortSc1_eq, Mi.srt1_ok, Mi.sSetL_eq, Mi.setLS_ok, Mi.eLcR_eq, Mi.lcRE_ok, Mi.eNever_eq, Mi.ePopI_eq, Mi.eListRgR_eq, Mi.lrgR_ok, Mi.eLend_eq, Mi.finI_nx, Mi.finI_rt, Mi.eFld_eq, Mi.sFld2_eq, Mi.fldS1_ok, Mi.fldS2_ok, Mi.eMeth_eq, Mi.meth2_ok, Mi.eRev_eq, Mi.revE_ok, List.getElem?_cons_zero, List.getElem?_cons_succ, List.set_cons_zero, List.set_cons_succ, List.length_cons, List.length_nil, if_true, if_false, reduceIte, Bool.not_true, Bool.not_false, decide_true, decide_false, Bool.true_and, Bool.false_and, Bool.and_true, Bool.and_false, Mi.R.of_some, Option.map_some, Option.map_none, Mi.wipeE, Mi.pur2, Mi.dI, Mi.iSub, Mi.iLt, Mi.iLe, Mi.iGt, Mi.iGe, Mi.setAll, Mi.Tg.put, Mi.toD, Nat.reduceAdd, reduceCtorEq, Bool.false_eq_true, $ls,*] $[$loc]?)

section
set_option maxRecDepth 100000
set_option maxHeartbeats 0
namespace Lw
open PySem PySem.Spec PyProof.Rows L2 Mi
def fn : List He.DefD := [
  ⟨("is_whole", none), "is_whole", "is_whole", defArgs (top 20), defBody (top 20), defScope (top 20), [], []⟩,
  ⟨("are_numbers", none), "are_numbers", "are_numbers", defArgs (top 21), defBody (top 21), defScope (top 21), [], []⟩,
  ⟨("are_views", none), "are_views", "are_views", defArgs (top 22), defBody (top 22), defScope (top 22), [], []⟩,
  ⟨("sizes_of", none), "sizes_of", "sizes_of", defArgs (top 27), defBody (top 27), defScope (top 27), [], []⟩,
  ⟨("size_of", none), "size_of", "size_of", defArgs (top 28), defBody (top 28), defScope (top 28), [], []⟩,
  ⟨("size_after", none), "size_after", "size_after", defArgs (top 29), defBody (top 29), defScope (top 29), [], []⟩,
  ⟨("size_of_event", none), "size_of_event", "size_of_event", defArgs (top 30), defBody (top 30), defScope (top 30), [], []⟩,
  ⟨("size_of_deed", none), "size_of_deed", "size_of_deed", defArgs (top 31), defBody (top 31), defScope (top 31), [], []⟩,
  ⟨("good_saying", none), "good_saying", "good_saying", defArgs (top 32), defBody (top 32), defScope (top 32), [], []⟩,
  ⟨("is_saying", none), "is_saying", "is_saying", defArgs (top 33), defBody (top 33), defScope (top 33), [], []⟩,
  ⟨("saying_text", none), "saying_text", "saying_text", defArgs (top 38), defBody (top 38), defScope (top 38), [], []⟩,
  ⟨("shown", none), "shown", "shown", defArgs (top 39), defBody (top 39), defScope (top 39), [], []⟩,
  ⟨("number_in", none), "number_in", "number_in", defArgs (top 40), defBody (top 40), defScope (top 40), [], []⟩,
  ⟨("part_of", none), "part_of", "part_of", defArgs (top 41), defBody (top 41), defScope (top 41), [], []⟩,
  ⟨("read", none), "read", "read", defArgs (top 42), defBody (top 42), defScope (top 42), [], []⟩,
  ⟨("_law_cell_at", none), "_law_cell_at", "_law_cell_at", defArgs (top 44), defBody (top 44), defScope (top 44), [], []⟩,
  ⟨("_law_mixed", none), "_law_mixed", "_law_mixed", defArgs (top 45), defBody (top 45), defScope (top 45), [], []⟩,
  ⟨("_law_draw", none), "_law_draw", "_law_draw", defArgs (top 46), defBody (top 46), defScope (top 46), [], []⟩,
  ⟨("_law_pick", none), "_law_pick", "_law_pick", defArgs (top 47), defBody (top 47), defScope (top 47), [], []⟩,
  ⟨("_law_plain", none), "_law_plain", "_law_plain", defArgs (top 48), defBody (top 48), defScope (top 48), [], []⟩,
  ⟨("_law_which", none), "_law_which", "_law_which", defArgs (top 49), defBody (top 49), defScope (top 49), [], []⟩,
  ⟨("_law_ask", none), "_law_ask", "_law_ask", defArgs (top 50), defBody (top 50), defScope (top 50), [], []⟩,
  ⟨("_law_text", none), "_law_text", "_law_text", defArgs (top 51), defBody (top 51), defScope (top 51), [], []⟩,
  ⟨("_law_parse", none), "_law_parse", "_law_parse", defArgs (top 52), defBody (top 52), defScope (top 52), [], []⟩,
  ⟨("law", none), "law", "law", defArgs (top 53), defBody (top 53), defScope (top 53), [], []⟩,
  ⟨("NoSaying", some "__init__"), "__init__", "NoSaying.__init__", defArgs (cdef (top 5)), defBody (cdef (top 5)), defScope (cdef (top 5)), [], []⟩,
  ⟨("CantBe", some "__init__"), "__init__", "CantBe.__init__", defArgs (cdef (top 15)), defBody (cdef (top 15)), defScope (cdef (top 15)), [], []⟩]
def glos : List Str := (["is_whole", "are_numbers", "are_views", "sizes_of", "size_of", "size_after", "size_of_event", "size_of_deed", "good_saying", "is_saying", "saying_text", "shown", "number_in", "part_of", "read", "_law_cell_at", "_law_mixed", "_law_draw", "_law_pick", "_law_plain", "_law_which", "_law_ask", "_law_text", "_law_parse", "law"] : List Str)
def chC (K : PySem.W.Frag) : Bool := gcB K "DEEP" (.int 12) && gcB K "AFTER" (.int 3) && gcB K "EVENTS" (.int 5) && gcB K "FIGURES" (.str "0123456789") && gcB K "MINDS" (.int 3) && gcB K "FACTS" (.int 4)
def chT (K : PySem.W.Frag) : Bool := decide (clA K 99 = 0)
def chX (K : PySem.W.Frag) : Bool := xtB K (List.range 18) && (iniB K 4 && iniB K 14)
def chk (K : PySem.W.Frag) : Bool := ((blB K && glos.all fun x => globB K x) && chC K) && (chX K && chT K)
abbrev RwT : PySem.W.OpenRow := PySem.W.OpenLaw.row PySem.Challenge.rw_mindsteps_k30_whole_texts
abbrev hk : PySem.W.Hook := Mi.hookM 4 fn chk
def ob (s : PySem.W.SharedT) : Mi.AlM := Mi.obsMG 4 fn chk (HandSHeadRun.getT s)
theorem ob_eq (s : PySem.W.SharedT) : ob s = hk.obs s.abs := Mi.obsMG_eq (HandSHeadRun.getT_eq s)
def loose : List Str := (["__name__", "MindError", "NoModel", "NoWorld", "NoMind", "NoSaying", "NoDeed", "NoEvent", "NoFact", "NoMinds", "NoLot", "NoCount", "NoText", "Unlike", "Common", "CantBe", "TooMany", "TooLong", "Nothing", "is_whole", "are_numbers", "are_views", "DEEP", "AFTER", "EVENTS"] : List Str) ++ (["sizes_of", "size_of", "size_after", "size_of_event", "size_of_deed", "good_saying", "is_saying", "FIGURES", "MINDS", "FACTS", "saying_text", "shown", "number_in", "part_of", "read", "_law_cell_at", "_law_mixed", "_law_draw", "_law_pick", "_law_plain", "_law_which", "_law_ask", "_law_text", "_law_parse"] : List Str)
theorem run (w : World) : HandSHeadRun.RunEq RwT (PySem.W.view RwT.prog [53]) hk ob 6000 loose w := by
  intro os
  kernel_rfl
end Lw
end

section
set_option maxRecDepth 100000
set_option maxHeartbeats 4000000
namespace Lw
open PySem PySem.Spec L2 Mi
/-! ### numbers drawn -/
def isWhole (x : D) (lo hi : Int) : Bool := match x with
  | .int i => decide (lo ≤ i) && decide (i ≤ hi)
  | _ => false
def noDict : D → Prop
  | .dict _ => False
  | _ => True
theorem c_is_whole (n : Nat) (x : D) (lo hi : Int) (st : Sto) (h : Okk st) (hd : noDict x) : Fs (n + 1) i_is_whole [.d x, .d (.int lo), .d (.int hi)] st = .ok (.d (.bool (isWhole x lo hi))) st := by
  rw [e_is_whole]
  cases x with
  | int i => cases h1 : decide (lo ≤ i) <;> simp [m_is_whole, tyOf, pur2, dI, iLe, isWhole, h, h1]
  | dict _ => exact hd.elim
  | _ => simp [m_is_whole, tyOf, isWhole, h]
theorem atI_get (ns : List Int) (k : Nat) (h : k < ns.length) : atI ns (k : Int) = some (ns.getD k 0) := by
  rw [atI_nat (v := ns.getD k 0)]
  simp [List.getD, h]
theorem forL_div (xs : List D) (a b : Option Val) (st : Sto) : ∀ (r : Int) (c : Option Val), ∃ c', forL (.nm 3) (sSet 2 (eOp (pur2 (dI iDiv)) (eVar 2) (eC (.int 1000003)))) xs [a, b, some (.d (.int r)), c] st = .ok (.nx [a, b, some (.d (.int (xs.foldl (fun r _ => r / 1000003) r))), c']) st := by
  induction xs with
  | nil => intro r c; exact ⟨c, rfl⟩
  | cons x xs ih =>
    intro r c
    obtain ⟨c', h⟩ := ih (r / 1000003) (some (.d x))
    refine ⟨c', ?_⟩
    simp [forL, Tg.put, pur2, dI, iDiv]
    exact h
theorem c_cell (n : Nat) (ns : List Int) (k : Nat) (st : Sto) (h : Okk st) (hn : ns.length ≤ 63) : ∃ v, Fs (n + 1) i__law_cell_at [.s ns, .d (.int (k : Nat))] st = .ok (.d (.int v)) st := by
  rw [e__law_cell_at]
  by_cases h1 : k < ns.length
  · have : ((k : Nat) : Int) < (ns.length : Int) := by omega
    refine ⟨ns.getD k 0, ?_⟩
    simp [m__law_cell_at, pur2, dI, iLt, bLen, lenOf, this, vIx, atI_get ns k h1, h]
  · have g1 : ¬ ((k : Nat) : Int) < (ns.length : Int) := by omega
    by_cases h2 : ns = []
    · subst h2
      have g2 : ¬ ((k : Nat) : Int) < 0 := by omega
      refine ⟨0, ?_⟩
      simp [m__law_cell_at, pur2, dI, iLt, bLen, lenOf, g2, vEq, datOf, fits, small, PyData.plain, PyData.plainAll, PyData.eqv, PyData.eqvAll, PyData.depth, PyData.depthAll, h]
    · have hl : 0 < ns.length := List.length_pos_iff.mpr h2
      have q1 : PyData.eqv (.list (ns.map PyData.int)) (.list []) = false := by
        cases ns with
        | nil => exact absurd rfl h2
        | cons a r => rfl
      have q2 : fits (.list (ns.map PyData.int)) (.list []) = true := by
        have : ∀ l : List Int, PyData.plainAll (l.map PyData.int) = true := fun l => by induction l with
          | nil => rfl
          | cons a r ih => simp [PyData.plainAll, PyData.plain, ih]
        simp [fits, PyData.plain, PyData.plainAll, this, PyData.depth, PyData.depthAll]
      have q3 : ((k : Int) % (ns.length : Int)) = ((k % ns.length : Nat) : Int) := by simp
      have q4 : k % ns.length < ns.length := Nat.mod_lt _ hl
      have q5 : (0 : Int) < (ns.length : Int) ∧ (ns.length : Int) < 1073741824 := by omega
      have q6 : (0 : Int) < (ns.length : Int) := by omega
      have q7 := atI_get ns (k % ns.length) q4
      obtain ⟨c', hc⟩ := forL_div ((List.range (min (k / ns.length) 60)).map fun j => PyData.int (0 + (j : Nat))) (some (.s ns)) (some (.d (.int k))) st (ns.getD (k % ns.length) 0) none
      have e1 : ((k : Int) / (ns.length : Int)) = ((k / ns.length : Nat) : Int) := by simp
      have e2 : (if (60 : Int) < ((k / ns.length : Nat) : Int) then (60 : Int) else ((k / ns.length : Nat) : Int)) = ((min (k / ns.length) 60 : Nat) : Int) := by split <;> omega
      have e3 : -(2 ^ 62) ≤ ((min (k / ns.length) 60 : Nat) : Int) ∧ ((min (k / ns.length) 60 : Nat) : Int) ≤ 1000000 := by
        have h60 : min (k / ns.length) 60 ≤ 60 := Nat.min_le_right _ _
        generalize min (k / ns.length) 60 = tt at *
        omega
      generalize ns.getD (k % ns.length) 0 = c0 at *
      generalize hr : ((List.range (min (k / ns.length) 60)).map fun j => PyData.int (0 + (j : Nat))).foldl (fun r _ => r / 1000003) c0 = r0 at hc
      refine ⟨c0 * 31 + k + r0 * 101, ?_⟩
      have z1 : (R.ok [.d (.int ((min (k / ns.length) 60 : Nat) : Int))] st).rangeI = .ok ((List.range (min (k / ns.length) 60)).map fun j => PyData.int (0 + (j : Nat))) st := by
        rw [rangeI_ok, if_pos e3, Int.toNat_natCast]
      have m1 : ∀ x : Int, iMul x 31 = some (.int (x * 31)) := fun x => if_pos (.inr (by decide))
      have m2 : ∀ x : Int, iMul x 101 = some (.int (x * 101)) := fun x => if_pos (.inr (by decide))
      simp only [m__law_cell_at, sSeq_eq, sIf_eq, eTst_eq, eOp_eq, eVar_eq, List.getElem?_cons_succ, List.getElem?_cons_zero, getv_ok, op1_ok, eCB_eq, aCons_eq, aNil_eq, cons1_ok, cons2_ok, cb_ok, bLen, lenOf, Option.map_some, R.of_some, op2_ok, pur2, dI, iLt, g1, decide_false, tst_ok, ifS_false, sNx_eq, andS_nx,
        vEq, datOf, eLst_eq, lstD_ok, toDs_nil, small, List.length_nil, Nat.zero_le, decide_true, if_true, q1, q2, sSet_eq, iMod, q6, vIx, q3, q7, setS_ok, List.set_cons_succ, List.set_cons_zero, sFor_eq, iRange_eq, iDiv, q5, and_self, eC_eq, bMin, e1, e2, z1, forS_ok, hc, sRet_eq, vMul, m1, m2, vAdd, retS_ok, fin0_rt, fin_d st h]
theorem c_mixed (n : Nat) (ns : List Int) (k : Nat) (b : Int) (st : Sto) (h : Okk st) (hn : ns.length ≤ 63) (hb : 0 < b) : ∃ v : Int, 0 ≤ v ∧ v < b ∧ Fs (n + 2) i__law_mixed [.s ns, .d (.int (k : Nat)), .d (.int b)] st = .ok (.d (.int v)) st := by
  rw [e__law_mixed]
  obtain ⟨c, hc⟩ := c_cell n ns k st h hn
  have m1 : ∀ x : Int, iMul x 1103515245 = some (.int (x * 1103515245)) := fun x => if_pos (.inr (by decide))
  have m2 : ∀ x : Int, iMul 7919 x = some (.int (7919 * x)) := fun x => if_pos (.inl (by decide))
  have p1 : ∀ x : Int, iPow (x % 2147483647) 5 = some (.int ((x % 2147483647) ^ 5)) := fun x => by
    have h1 : 0 ≤ x % 2147483647 := Int.emod_nonneg _ (by decide)
    have h2 : x % 2147483647 < 2147483647 := Int.emod_lt_of_pos _ (by decide)
    unfold iPow
    rw [if_pos ⟨by decide, by decide, by omega⟩]; rfl
  refine ⟨(((c * 1103515245 + 7919 * k + 12345) % 2147483647) ^ 5 % 2147483647 % 999983) % b, Int.emod_nonneg _ (by omega), Int.emod_lt_of_pos _ hb, ?_⟩
  simp [m__law_mixed, hc, vMul, m1, m2, vAdd, pur2, dI, iMod, p1, hb, h]
theorem c_draw (n : Nat) (ns : List Int) (b : Int) (xs : List D) (rest : Sto) (h : Okk (.lst xs :: rest)) (hn : ns.length ≤ 63) (hb : 0 < b) (hx : xs.length < 1000000) : ∃ v : Int, 0 ≤ v ∧ v < b ∧
    Fs (n + 3) i__law_draw [.s ns, .r 0, .d (.int b)] (.lst xs :: rest) = .ok (.d (.int v)) (.lst (xs ++ [.int 0]) :: rest) := by
  rw [e__law_draw]
  have h' : Okk (.lst (xs ++ [.int 0]) :: rest) := h
  obtain ⟨v, h1, h2, hv⟩ := c_mixed n ns (xs.length + 1) b (.lst (xs ++ [.int 0]) :: rest) h' hn hb
  refine ⟨v, h1, h2, ?_⟩
  have hv2 : Fs (n + 2) i__law_mixed [.s ns, .d (.int ((xs.length : Int) + 1)), .d (.int b)] (.lst (xs ++ [.int 0]) :: rest) = .ok (.d (.int v)) (.lst (xs ++ [.int 0]) :: rest) := by
    have := hv
    push_cast at this
    exact this
  have e := fin_d (.lst (xs ++ [.int 0]) :: rest) h' (.int v)
  simp [m__law_draw, hx, bLen, lenOf, sqOf, lsOf, hv2]
  simpa using e
end Lw
end

section
set_option maxRecDepth 100000
set_option maxHeartbeats 4000000
namespace Lw
open PySem PySem.Spec L2 Mi
/-! ### sayings without deeds -/
inductive Pl where
  | fact (i : Nat)
  | no (p : Pl)
  | holds (m : Nat) (p : Pl)
  | may (m : Nat) (p : Pl)
  | all (p : Pl)
  | com (p : Pl)
  | an (p q : Pl)
  | or (p q : Pl)
def Pl.d : Pl → D
  | .fact i => .tuple [.str "fact", .int i]
  | .no p => .tuple [.str "not", p.d]
  | .holds m p => .tuple [.str "holds", .int m, p.d]
  | .may m p => .tuple [.str "may", .int m, p.d]
  | .all p => .tuple [.str "all", p.d]
  | .com p => .tuple [.str "common", p.d]
  | .an p q => .tuple [.str "and", p.d, q.d]
  | .or p q => .tuple [.str "or", p.d, q.d]
def Pl.deep : Pl → Nat
  | .fact _ => 1
  | .no p => p.deep + 1
  | .holds _ p => p.deep + 1
  | .may _ p => p.deep + 1
  | .all p => p.deep + 1
  | .com p => p.deep + 1
  | .an p q => max p.deep q.deep + 1
  | .or p q => max p.deep q.deep + 1
def Pl.ok (minds facts : Nat) : Pl → Prop
  | .fact i => i < facts
  | .no p => p.ok minds facts
  | .holds m p => m < minds ∧ p.ok minds facts
  | .may m p => m < minds ∧ p.ok minds facts
  | .all p => p.ok minds facts
  | .com p => p.ok minds facts
  | .an p q => p.ok minds facts ∧ q.ok minds facts
  | .or p q => p.ok minds facts ∧ q.ok minds facts
end Lw
end

section
set_option maxRecDepth 100000
set_option maxHeartbeats 4000000
namespace Lw
open PySem PySem.Spec L2 Mi
def szD (a b : Nat) : D := .tuple [.int a, .int b]
theorem c_sizes1 (n : Nat) (a b : Nat) (st : Sto) (h : Okk st) : Fs (n + 1) i_sizes_of [.d (.list [szD a b])] st = .ok (.d (szD a b)) st := by
  rw [e_sizes_of]
  simp [m_sizes_of, szD, small, compL, Tg.put, wipeE, vIx, sqOf, atI, ixN, toD, bMax, lsOf, intsOf, maxI, h]
theorem c_sizes2 (n : Nat) (a b c d : Nat) (st : Sto) (h : Okk st) : Fs (n + 1) i_sizes_of [.d (.list [szD a b, szD c d])] st = .ok (.d (szD (max a c) (max b d))) st := by
  rw [e_sizes_of]
  simp [m_sizes_of, szD, small, compL, Tg.put, wipeE, vIx, sqOf, atI, ixN, toD, bMax, lsOf, intsOf, maxI, h]
  constructor <;> split <;> omega
theorem depth_le (p : Pl) : p.d.depth ≤ p.deep ∧ p.d.plain = true := by
  induction p with
  | fact i => simp [Pl.d, Pl.deep, PyData.depth, PyData.depthAll, PyData.plain, PyData.plainAll]
  | no p ih => simp [Pl.d, Pl.deep, PyData.depth, PyData.depthAll, PyData.plain, PyData.plainAll, ih.2]; omega
  | holds m p ih => simp [Pl.d, Pl.deep, PyData.depth, PyData.depthAll, PyData.plain, PyData.plainAll, ih.2]; omega
  | may m p ih => simp [Pl.d, Pl.deep, PyData.depth, PyData.depthAll, PyData.plain, PyData.plainAll, ih.2]; omega
  | all p ih => simp [Pl.d, Pl.deep, PyData.depth, PyData.depthAll, PyData.plain, PyData.plainAll, ih.2]; omega
  | com p ih => simp [Pl.d, Pl.deep, PyData.depth, PyData.depthAll, PyData.plain, PyData.plainAll, ih.2]; omega
  | an p q ih ih2 => simp [Pl.d, Pl.deep, PyData.depth, PyData.depthAll, PyData.plain, PyData.plainAll, ih.2, ih2.2]; omega
  | or p q ih ih2 => simp [Pl.d, Pl.deep, PyData.depth, PyData.depthAll, PyData.plain, PyData.plainAll, ih.2, ih2.2]; omega
theorem fits0 (x : D) (xs : List D) (h : PyData.plainAll (x :: xs) = true) : fits (.tuple (x :: xs)) (.tuple []) = true := by
  have h2 : (PyData.tuple []).depth = 1 := rfl
  simp only [fits, plain_tup, h, plainAll_nil, Bool.and_self, Bool.true_and, decide_eq_true_eq, h2]
  omega
end Lw
end

section
set_option maxRecDepth 100000
set_option maxHeartbeats 4000000
namespace Lw
open PySem PySem.Spec L2 Mi
def inR (many i : Int) : Bool := isWhole (.int i) 0 (many - 1)
def lt2 (p : Int × Int) : Bool := decide (p.1 < p.2)
/-- numbers under many, rising -/
def numsOk (many : Int) (xs : List Int) : Bool := xs.all (inR many) && (xs.zip (xs.drop 1)).all lt2
def numsD (xs : List Int) : D := .tuple (xs.map .int)
end Lw
end

section
set_option maxRecDepth 100000
set_option maxHeartbeats 4000000
namespace Lw
open PySem PySem.Spec L2 Mi
def viewsD (vs : List (List (List Int))) : D := .tuple (vs.map fun own => .tuple (own.map numsD))
theorem plainAll_mp {α : Type} (f : α → D) (xs : List α) (h : ∀ x ∈ xs, (f x).plain = true) : PyData.plainAll (xs.map f) = true := by
  induction xs with
  | nil => rfl
  | cons a l ih => rw [List.map_cons, plainAll_cons, h a List.mem_cons_self, ih fun x hx => h x (List.mem_cons_of_mem _ hx)]; rfl
end Lw
end

section
set_option maxRecDepth 100000
set_option maxHeartbeats 4000000
namespace Lw
open PySem PySem.Spec L2 Mi
/-! ### models -/
structure Mo where
  minds : Nat
  facts : Nat
  wor : List (List Int)
  vie : List (List (List Int))
def Mo.n (M : Mo) : Nat := M.wor.length
def Mo.d (M : Mo) : D := .tuple [.int M.minds, .int M.facts, .tuple (M.wor.map numsD), viewsD M.vie]
structure Mo.Ok (M : Mo) : Prop where
  m1 : 1 ≤ M.minds
  m3 : M.minds ≤ 3
  f1 : 1 ≤ M.facts
  f4 : M.facts ≤ 4
  n1 : 1 ≤ M.n
  n60 : M.n ≤ 120
  wo : ∀ x ∈ M.wor, numsOk M.facts x = true
  vl : M.vie.length = M.minds
  ol : ∀ own ∈ M.vie, own.length = M.n
  vo : ∀ own ∈ M.vie, ∀ xs ∈ own, numsOk M.n xs = true
def Mo.view (M : Mo) (m w : Nat) : List Int := (M.vie.getD m []).getD w []
def Mo.near (M : Mo) (w : Nat) : List Int := (M.vie.map fun own => own.getD w []).flatten
def Mo.steps (M : Mo) (w : Nat) : List Int := sortS (M.near w)
theorem Mo.Ok.own {M : Mo} (h : M.Ok) {own : List (List Int)} (ho : own ∈ M.vie) {w : Nat} (hw : w < M.n) : own.getD w [] ∈ own := by
  have hl := h.ol own ho
  rw [List.getD_eq_getElem?_getD, List.getElem?_eq_getElem (by omega)]
  exact List.getElem_mem _
end Lw
end

section
set_option maxRecDepth 100000
set_option maxHeartbeats 4000000
namespace Lw
open PySem PySem.Spec L2 Mi
theorem fin_app (S rest : Sto) (h : Okk S) (x : D) : fin S.length (.d x) (S ++ rest) = .ok (.d x) S := by
  unfold fin
  rw [List.take_left, if_pos (show insOk _ _ = true from h)]
inductive Rch (M : Mo) (some : List Int) : Int → Prop
  | base {k : Int} : k ∈ some → Rch M some k
  | step {j k : Int} : Rch M some j → k ∈ M.steps j.toNat → Rch M some k
end Lw
end

section
set_option maxRecDepth 100000
set_option maxHeartbeats 4000000
namespace Lw
open PySem PySem.Spec L2 Mi
/-! ### where a saying holds -/
def Mo.tr (M : Mo) : Pl → Int → Prop
  | .fact i, w => (i : Int) ∈ M.wor.getD w.toNat []
  | .no p, w => ¬ M.tr p w
  | .holds m p, w => ∀ v ∈ M.view m w.toNat, M.tr p v
  | .may m p, w => ∃ v ∈ M.view m w.toNat, M.tr p v
  | .all p, w => ∀ v ∈ M.steps w.toNat, M.tr p v
  | .com p, w => ∀ v, Rch M (M.steps w.toNat) v → M.tr p v
  | .an p q, w => M.tr p w ∧ M.tr q w
  | .or p q, w => M.tr p w ∨ M.tr q w
open Classical in
noncomputable def Mo.trB (M : Mo) (p : Pl) (w : Int) : Bool := decide (M.tr p w)
def Mo.ws (M : Mo) : List Int := (List.range M.n).map fun k : Nat => (k : Int)
noncomputable def Mo.wl (M : Mo) (p : Pl) : List Int := M.ws.filter (M.trB p)
/-! keys -/
def Pl.key : Pl → NestedKey
  | .fact i => .tup [.text "fact", .num i]
  | .no p => .tup [.text "not", p.key]
  | .holds m p => .tup [.text "holds", .num m, p.key]
  | .may m p => .tup [.text "may", .num m, p.key]
  | .all p => .tup [.text "all", p.key]
  | .com p => .tup [.text "common", p.key]
  | .an p q => .tup [.text "and", p.key, q.key]
  | .or p q => .tup [.text "or", p.key, q.key]
end Lw
end

section
set_option maxRecDepth 100000
set_option maxHeartbeats 4000000
namespace Lw
open PySem PySem.Spec L2 Mi
theorem vIn_nums (i : Int) (xs : List Int) (st : Sto) : vIn (.d (.int i)) (.d (numsD xs)) st = some (.d (.bool (decide (i ∈ xs))), st) := by
  have h1 : fitsIn (xs.map PyData.int) (.int i) = true := by
    unfold fitsIn
    rw [plainAll_mp PyData.int xs fun x _ => rfl, depth_int, plain_int, Nat.min_zero]; rfl
  have h2 : ((xs.map PyData.int).any fun y => PyData.eqv y (.int i)) = decide (i ∈ xs) := by
    rw [List.any_map]
    clear h1
    induction xs with
    | nil => simp
    | cons a l ih =>
      rw [List.any_cons, ih]
      by_cases q : i = a
      · subst q; simp
      · have : ¬ a = i := fun h => q h.symm
        simp [q, this]
  unfold numsD
  simp only [vIn, datOf, sqOf, h1, h2, if_true]
end Lw
end

section
set_option maxRecDepth 100000
set_option maxHeartbeats 4000000
namespace Lw
open PySem PySem.Spec L2 Mi
def Pl.sz : Pl → Nat
  | .fact _ => 1
  | .no p => p.sz + 1
  | .holds _ p => p.sz + 1
  | .may _ p => p.sz + 1
  | .all p => p.sz + 1
  | .com p => p.sz + 1
  | .an p q => p.sz + q.sz + 1
  | .or p q => p.sz + q.sz + 1
section
variable {M : Mo} (hM : M.Ok)
theorem m2 (M : Mo) (st : Sto) : vIx (.d M.d) (.d (.int 2)) st = some (.d (.tuple (M.wor.map numsD)), st) := rfl
theorem m3 (M : Mo) (st : Sto) : vIx (.d M.d) (.d (.int 3)) st = some (.d (viewsD M.vie), st) := rfl
theorem wEq (a b : Str) (st : Sto) : vEq (.d (.str a)) (.d (.str b)) st = some (.d (.bool (a == b)), st) := by simp only [vEq, datOf, fits_str, if_true, eqv_str]
end
end Lw
end

section
set_option maxRecDepth 100000
set_option maxHeartbeats 4000000
namespace Lw
open PySem PySem.Spec L2 Mi
/-! ### models are models, sayings sayings -/
end Lw
end

section
set_option maxRecDepth 100000
set_option maxHeartbeats 4000000
namespace Lw
open PySem PySem.Spec L2 Mi
/-! ### drawn lists -/
abbrev drawE (n : Nat) (b : Int) : EE := eCl 3 (Fs (n + 3) i__law_draw) (aCons (eVar 0) (aCons (eVar 1) (aCons (eC (.int b)) aNil)))
theorem drawn (n : Nat) (ns : List Int) (hn : ns.length ≤ 63) (b : Int) (hb : 0 < b) (env : Ev) (h0 : env[0]? = some (some (.s ns))) (h1 : env[1]? = some (some (.r 0))) (xs : List D) (rest : Sto) (h : Okk (.lst xs :: rest)) (hx : xs.length < 1000000) : ∃ v : Int, 0 ≤ v ∧ v < b ∧ drawE n b env (.lst xs :: rest) = .ok (.d (.int v)) (.lst (xs ++ [.int 0]) :: rest) := by
  obtain ⟨v, v1, v2, hv⟩ := c_draw n ns b xs rest h hn hb hx
  refine ⟨v, v1, v2, ?_⟩
  simp! only [ssE_ok, drawE, h0, h1, hv]
end Lw
end

section
set_option maxRecDepth 100000
set_option maxHeartbeats 4000000
namespace Lw
open PySem PySem.Spec L2 Mi
def noIns : Sto → Bool
  | [] => true
  | .ins _ _ :: _ => false
  | _ :: r => noIns r
abbrev ST (P : Sto) (xs made : List D) (junk : Sto) : Sto := .lst xs :: (P ++ .lst made :: junk)
end Lw
end

section
set_option maxRecDepth 100000
set_option maxHeartbeats 4000000
namespace Lw
open PySem PySem.Spec L2 Mi
theorem Rch.mono {M : Mo} {a b : List Int} (h : ∀ x ∈ a, Rch M b x) {k : Int} (r : Rch M a k) : Rch M b k := by
  induction r with
  | base h1 => exact h _ h1
  | step _ h2 ih => exact .step ih h2
end Lw
end

section
set_option maxRecDepth 100000
set_option maxHeartbeats 4000000
namespace Lw
open PySem PySem.Spec L2 Mi
def liD (l : List Int) : D := .list (l.map .int)
theorem in_li (i : Int) (l : List Int) (st : Sto) : vIn (.d (.int i)) (.d (liD l)) st = some (.d (.bool (decide (i ∈ l))), st) := by
  have := vIn_nums i l st
  simp only [numsD, vIn, datOf, sqOf] at this
  simp only [liD, vIn, datOf, sqOf, lsOf, this]
theorem lc_inV (j : Nat) (A B : List Int) (env : Ev) (hl : j < env.length) (st : Sto) (e2 : EE) (h2 : ∀ x, e2 (env.set j x) st = .ok (.d (liD B)) st) : compL (.nm j) (eTst (eOp vIn (eVar j) e2)) (eVar j) env (A.map .int) st = .ok ((A.filter fun x => decide (x ∈ B)).map .int) st :=
  compL_fl .int _ .int A fun x _ => ⟨_, rfl, by
    rw [eTst_eq, eOp_eq, eVar_eq, List.getElem?_set_self hl, getv_ok, op1_ok, h2, op2_ok, in_li]; rfl, fun _ => by rw [eVar_eq, List.getElem?_set_self hl]; rfl⟩
theorem lc_in (A B : List Int) (env : Ev) (hl : 16 < env.length) (st : Sto) (e2 : EE) (h2 : ∀ x, e2 (env.set 16 x) st = .ok (.d (liD B)) st) : compL (.nm 16) (eTst (eOp vIn (eVar 16) e2)) (eVar 16) env (A.map .int) st = .ok ((A.filter fun x => decide (x ∈ B)).map .int) st := lc_inV 16 A B env hl st e2 h2
end Lw
end

section
set_option maxRecDepth 100000
set_option maxHeartbeats 4000000
namespace Lw
open PySem PySem.Spec L2 Mi
def Mo.own (M : Mo) (m : Nat) : List (List Int) := M.vie.getD m []
end Lw
end

section
set_option maxRecDepth 100000
set_option maxHeartbeats 4000000
namespace Lw
open PySem PySem.Spec L2 Mi
end Lw
end

section
set_option maxRecDepth 100000
set_option maxHeartbeats 1000000
namespace Lw
open PySem PySem.Spec L2 Mi
/-! ### the text of a case -/
def iT (i : Int) : Str := Str.ofString (toString i)
theorem iT_len {i : Int} (h : 0 ≤ i) (h2 : i < 1000) : (iT i).length ≤ 3 := PyProof.Rows.toString_length_le h (by decide) (by omega)
theorem join_len (a : Str) (B : Nat) : ∀ (ys : List Str), (∀ y ∈ ys, y.length ≤ B) → (PySem.Txt.join a ys).length ≤ ys.length * (B + a.length)
  | [], _ => by
    show (Builtin.Str.glued a []).length ≤ _
    rw [StrLaws.glued_eq_join]; exact Nat.zero_le _
  | [y], h => by
    have := h y List.mem_cons_self
    show (Builtin.Str.glued a [y]).length ≤ _
    rw [StrLaws.glued_eq_join]
    show y.length ≤ _
    rw [List.length_singleton]; omega
  | y :: z :: r, h => by
    have h1 := h y List.mem_cons_self
    have ih := join_len a B (z :: r) fun x hx => h x (List.mem_cons_of_mem _ hx)
    have e1 : PySem.Txt.join a (z :: r) = Str.join a (z :: r) := StrLaws.glued_eq_join a _
    have e2 : PySem.Txt.join a (y :: z :: r) = y ++ a ++ Str.join a (z :: r) := StrLaws.glued_eq_join a _
    rw [e1] at ih
    rw [e2, Str.length_append, Str.length_append, List.length_cons, Nat.succ_mul]
    omega
theorem strs_map : ∀ ys : List Str, strsOf (ys.map PyData.str) = some ys
  | [] => rfl
  | y :: r => by
    have ih := strs_map r
    simp only [List.map_cons, strsOf, ih, Option.map_some]
theorem join_ok {eo ea : EE} {env : Ev} {st s s2 : Sto} {a : Str} {y : Val} {ys : List Str} (h1 : eo env st = .ok (.d (.str a)) s) (h2 : ea env s = .ok y s2) (h3 : sqOf y s2 = some (ys.map .str)) (B : Nat) (hB : ∀ y ∈ ys, y.length ≤ B) (h5 : ys.length * B + ys.length * a.length ≤ 1000000) : eJoin eo ea env st = .ok (.d (.str (PySem.Txt.join a ys))) s2 := by
  have h4 := StrLaws.sumLen_le ys hB
  have sm : small ((ys.map (·.length)).sum + ys.length * a.length) = true := decide_eq_true (by omega)
  unfold eJoin
  rw [h1]
  simp only [R.bind_ok, h2, h3, strs_map, sm, if_true]
theorem log2_lt {i : Int} (h0 : 0 ≤ i) (h : i < 1000) : i.natAbs.log2 < 1920 := by
  obtain ⟨k, rfl⟩ := Int.eq_ofNat_of_zero_le h0
  rw [Int.natAbs_natCast]
  by_cases hk : k = 0
  · subst hk; decide
  · exact (Nat.log2_lt hk).mpr (Nat.lt_of_lt_of_le (show k < 2 ^ 10 by omega) (Nat.pow_le_pow_right (by decide) (by decide)))
theorem strI_ok {i : Int} (h0 : 0 ≤ i) (h : i < 1000) (st : Sto) : bStrI [.d (.int i)] st = some (.d (.str (iT i)), st) := if_pos (log2_lt h0 h)
end Lw
namespace Lw
open PySem PySem.Spec L2 Mi
theorem fmt_ok {e : EE} {env : Ev} {st : Sto} {i : Int} (h : e env st = .ok (.d (.int i)) st) (h0 : 0 ≤ i) (h2 : i < 1000) : eFmt e env st = .ok (.d (.str (iT i))) st := by
  unfold eFmt
  rw [h]
  exact if_pos (log2_lt h0 h2)
theorem joinF_cons {e : EE} {es : List EE} {acc : Str} {env : Ev} {st s : Sto} {y : Str} (h : e env st = .ok (.d (.str y)) s) (hs : (acc ++ y).length ≤ 1000000) : eJoinF (e :: es) acc env st = eJoinF es (acc ++ y) env s := by
  show (e env st).bind _ = _
  rw [h]
  exact if_pos (decide_eq_true hs)
end Lw
end

section
set_option maxRecDepth 100000
set_option maxHeartbeats 1000000
namespace Lw
open PySem PySem.Spec L2 Mi PySem.StrLaws PySem.Builtin.Str
/-! ### split and join -/
structure Sep (sep : Str) (c i0 : Nat) : Prop where
  at' : sep.cps.toList[i0]? = some c
  no : ∀ k < i0, sep.cps.toList[k]? ≠ some c
theorem at_get {x sep : Str} {c i0 k : Nat} (hs : Sep sep c i0) (h : At x sep x.length k) : x.cps.toList[k + i0]? = some c := by
  have h2 := h.2
  rw [subAt_eq] at h2
  have e := eq_of_beq h2
  have hl : i0 < sep.length := by
    have := (List.getElem?_eq_some_iff.mp hs.at').1
    simpa [Str.length] using this
  have := hs.at'
  rw [← e, List.getElem?_take_of_lt hl, List.getElem?_drop] at this
  exact this
theorem cps_len (x : Str) : x.cps.toList.length = x.length := by simp [Str.length]
theorem at_of {x sep : Str} {k : Nat} {r : List Nat} (hk : k ≤ x.length) (h : x.cps.toList.drop k = sep.cps.toList ++ r) : At x sep x.length k := by
  have hl : (x.cps.toList.drop k).length = sep.length + r.length := by rw [h]; simp [Str.length]
  refine ⟨?_, ?_⟩
  · rw [List.length_drop, cps_len] at hl; omega
  · rw [subAt_eq, h, List.take_left' (cps_len sep)]
    exact beq_self_eq_true _
theorem sub_of {x p : Str} {a : Nat} {r : List Nat} (h : x.cps.toList.drop a = p.cps.toList ++ r) (b : Nat) (hb : b = a + p.length) : strSub x a b = p := by
  apply Str.ext'
  apply Array.toList_inj.mp
  rw [strSub_toList, h, hb, show a + p.length - a = p.length by omega, List.take_left' (cps_len p)]
theorem jn_cons (sep p q : Str) (r : List Str) : (Str.join sep (p :: q :: r)).cps.toList = p.cps.toList ++ (sep.cps.toList ++ (Str.join sep (q :: r)).cps.toList) := by
  show (p ++ sep ++ Str.join sep (q :: r)).cps.toList = _
  simp only [Str.cps_append, Array.toList_append, List.append_assoc]
theorem parts_join {x sep : Str} {c i0 : Nat} (hs : Sep sep c i0) : ∀ (r : List Str) (p : Str) (a : Nat) (cuts : List Nat) (f : Nat), a ≤ x.length → x.cps.toList.drop a = (Str.join sep (p :: r)).cps.toList → (∀ q ∈ p :: r, c ∉ q.cps.toList) → ChainG x sep x.length a cuts f → (∀ k, f ≤ k → ¬ At x sep x.length k) → partsFrom x sep.length a cuts = p :: r
  | [], p, a, cuts, f, ha, hx, hf, hG, hn => by
    have hx : x.cps.toList.drop a = p.cps.toList := hx
    have no : ∀ k, a ≤ k → ¬ At x sep x.length k := fun k hk hA => by
      have := at_get hs hA
      have e : (x.cps.toList.drop a)[k - a + i0]? = some c := by rw [List.getElem?_drop, show a + (k - a + i0) = k + i0 by omega]; exact this
      rw [hx] at e
      exact hf p (by simp) (List.mem_of_getElem? e)
    cases cuts with
    | nil =>
      show [strSub x a x.length] = [p]
      rw [sub_of (r := []) (by rw [hx, List.append_nil]) x.length (by
        have : (x.cps.toList.drop a).length = p.length := by rw [hx, cps_len]
        rw [List.length_drop, cps_len] at this; omega)]
    | cons d ds => exact absurd hG.2.1 (no d hG.1)
  | q :: r, p, a, cuts, f, ha, hx, hf, hG, hn => by
    rw [jn_cons] at hx
    have hl : (x.cps.toList.drop a).length = p.length + (sep.length + (Str.join sep (q :: r)).length) := by rw [hx]; simp only [List.length_append, cps_len]
    rw [List.length_drop, cps_len] at hl
    have hd : x.cps.toList.drop (a + p.length) = sep.cps.toList ++ (Str.join sep (q :: r)).cps.toList := by
      rw [← List.drop_drop, hx, List.drop_left' (cps_len p)]
    have A0 : At x sep x.length (a + p.length) := at_of (by omega) hd
    have no : ∀ k, a ≤ k → k < a + p.length → ¬ At x sep x.length k := fun k h1 h2 hA => by
      have g := at_get hs hA
      have e : (x.cps.toList.drop a)[k - a + i0]? = some c := by rw [List.getElem?_drop, show a + (k - a + i0) = k + i0 by omega]; exact g
      rw [hx] at e
      by_cases z : k - a + i0 < p.length
      · rw [List.getElem?_append_left (by rw [cps_len]; exact z)] at e
        exact hf p (by simp) (List.mem_of_getElem? e)
      · have hi : i0 < sep.length := by
          have := (List.getElem?_eq_some_iff.mp hs.at').1
          rwa [cps_len] at this
        rw [List.getElem?_append_right (by rw [cps_len]; omega), cps_len, List.getElem?_append_left (by rw [cps_len]; omega)] at e
        exact hs.no _ (by omega) e
    cases cuts with
    | nil =>
      have e : f = a := hG
      exact absurd A0 (hn _ (by omega))
    | cons d ds =>
      obtain ⟨g1, g2, g3, g4⟩ := hG
      have ed : d = a + p.length := by
        rcases Nat.lt_trichotomy d (a + p.length) with z | z | z
        · exact absurd g2 (no d g1 z)
        · exact z
        · exact absurd A0 (g3 _ (by omega) z)
      subst ed
      have ih := parts_join hs r q (a + p.length + sep.length) ds f (by omega) (by rw [← List.drop_drop, hd, List.drop_left' (cps_len sep)]) (fun y hy => hf y (by simp at hy ⊢; right; exact hy)) g4 hn
      show strSub x a (a + p.length) :: partsFrom x sep.length (a + p.length + sep.length) ds = _
      rw [ih, sub_of hx _ rfl]
theorem kind1 (x : Str) : 1 ≤ PySem.Builtin.Str.strKind x := by
  unfold PySem.Builtin.Str.strKind
  split
  · exact Nat.le_refl _
  · split <;> decide
theorem split_join {sep : Str} {c i0 : Nat} (hs : Sep sep c i0) (hk : PySem.Builtin.Str.strKind sep = 1) (p : Str) (r : List Str) (hf : ∀ q ∈ p :: r, c ∉ q.cps.toList) : Txt.split (Txt.join sep (p :: r)) sep = p :: r := by
  have ej : Txt.join sep (p :: r) = Str.join sep (p :: r) := glued_eq_join sep (p :: r)
  rw [ej]
  obtain ⟨x, hx⟩ : ∃ x : Str, x = Str.join sep (p :: r) := ⟨_, rfl⟩
  rw [← hx]
  have hw : 1 ≤ sep.length := by
    have := (List.getElem?_eq_some_iff.mp hs.at').1
    rw [cps_len] at this; omega
  obtain ⟨f, hG, hn⟩ := occ_tight x sep hw
  have key := parts_join hs r p 0 _ f (Nat.zero_le _) (by rw [List.drop_zero, hx]) hf hG hn
  have k1 := kind1 x
  unfold Txt.split
  by_cases q : (decide (x.length < sep.length) || decide (PySem.Builtin.Str.strKind x < PySem.Builtin.Str.strKind sep)) = true
  · rw [if_pos q]
    have hl : x.length < sep.length := by
      rw [Bool.or_eq_true, decide_eq_true_eq, decide_eq_true_eq, hk] at q
      omega
    cases r with
    | nil => rw [hx]; rfl
    | cons y r =>
      have := congrArg List.length (jn_cons sep p y r)
      rw [cps_len, ← hx] at this
      simp only [List.length_append, cps_len] at this
      omega
  · rw [if_neg q]
    by_cases e : (occurrences x sep 0 x.length (x.length + 1)).isEmpty = true
    · rw [if_pos e]
      rw [List.isEmpty_iff.mp e] at key
      have key : [strSub x 0 x.length] = p :: r := key
      rw [sub_whole] at key
      exact key
    · rw [if_neg e, partsBetween_eq]
      exact key
theorem join_split' (x y : Str) : Txt.join y (Txt.split x y) = x := (glued_eq_join y _).trans (join_split x y)
theorem sp1 : Sep " " 32 0 := ⟨by decide +kernel, fun k h => by omega⟩
theorem sp2 : Sep ", " 44 0 := ⟨by decide +kernel, fun k h => by omega⟩
theorem kd1 : PySem.Builtin.Str.strKind " " = 1 := by decide +kernel
end Lw
end

section
set_option maxRecDepth 100000
set_option maxHeartbeats 1000000
namespace Lw
open PySem PySem.Spec L2 Mi
/-! ### numbers that words write -/
def figs : Str := "0123456789"
def digs : List Nat := [48, 49, 50, 51, 52, 53, 54, 55, 56, 57]
theorem figs_eq : figs.cps.toList = digs := by decide +kernel
def isNum (w : Str) : Bool := !(w == "") && decide (w.length ≤ 3) && w.cps.toList.all (fun c => decide (c ∈ digs))
def nP (w : Str) : Option Nat := if isNum w = true then (match intText? w with
  | some n => if w == iT n then some n.toNat else none
  | none => none) else none
def allL : List (List Nat) := digs.map (fun a => [a]) ++ digs.flatMap (fun a => digs.map fun b => [a, b]) ++ digs.flatMap fun a => digs.flatMap fun b => digs.map fun c => [a, b, c]
theorem allL_ok : (allL.all fun l => match intText? ⟨l.toArray⟩ with
  | some n => decide (0 ≤ n ∧ n < 1000)
  | none => false) = true := by decide +kernel
theorem num_all {w : Str} (h : isNum w = true) : ∃ n : Nat, intText? w = some (n : Int) ∧ n < 1000 := by
  unfold isNum at h
  rw [Bool.and_eq_true, Bool.and_eq_true, List.all_eq_true, decide_eq_true_eq] at h
  obtain ⟨⟨h1, h2⟩, h3⟩ := h
  have hw : w = ⟨w.cps.toList.toArray⟩ := by cases w; simp
  have hl : w.cps.toList.length ≤ 3 := by rw [cps_len]; exact h2
  have h3 : ∀ c ∈ w.cps.toList, c ∈ digs := fun c hc => of_decide_eq_true (h3 c hc)
  have hm : w.cps.toList ∈ allL := by
    unfold allL
    generalize w.cps.toList = l at *
    match l with
    | [] =>
      have e : (w == "") = true := by rw [hw]; rfl
      rw [e] at h1; cases h1
    | [a] => simp only [List.mem_append, List.mem_map, List.mem_flatMap]; exact Or.inl (Or.inl ⟨a, h3 a (by simp), rfl⟩)
    | [a, b] => simp only [List.mem_append, List.mem_map, List.mem_flatMap]; exact Or.inl (Or.inr ⟨a, h3 a (by simp), b, h3 b (by simp), rfl⟩)
    | [a, b, c] => simp only [List.mem_append, List.mem_map, List.mem_flatMap]; exact Or.inr ⟨a, h3 a (by simp), b, h3 b (by simp), c, h3 c (by simp), rfl⟩
    | a :: b :: c :: d :: r => simp at hl
  have := List.all_eq_true.mp allL_ok _ hm
  rw [← hw] at this
  split at this
  · rename_i n e
    have q := of_decide_eq_true this
    exact ⟨n.toNat, by rw [e, Int.toNat_of_nonneg q.1], by omega⟩
  · cases this
theorem nP_some {w : Str} {k : Nat} (h : nP w = some k) : w = iT k ∧ k < 1000 := by
  unfold nP at h
  split at h
  · rename_i hn
    obtain ⟨n, e, hl⟩ := num_all hn
    rw [e] at h
    simp only at h
    split at h
    · rename_i q
      have : n = k := by simpa using h
      subst this
      exact ⟨eq_of_beq q, hl⟩
    · cases h
  · cases h
theorem iT_chk : ((List.range 1000).all fun k => decide (nP (iT (k : Nat)) = some k) && (iT (k : Nat)).cps.toList.all (fun c => decide (c ∈ digs))) = true := by decide +kernel
theorem nP_iT {k : Nat} (h : k < 1000) : nP (iT k) = some k := by
  have := List.all_eq_true.mp iT_chk k (List.mem_range.mpr h)
  rw [Bool.and_eq_true] at this
  exact of_decide_eq_true this.1
def oD : Option Nat → D
  | none => .none
  | some k => .int k
theorem c_number_in (n : Nat) (w : Str) (hw : w.length ≤ 900000) (st : Sto) (ok : Okk st) : Fs (n + 1) i_number_in [.d (.str w)] st = .ok (.d (oD (nP w))) st := by
  have sm : small w.length = true := small_le _ (by omega)
  have bl : bLenS [.d (.str w)] st = some (.d (.int (w.length : Nat)), st) := if_pos sm
  have it : ∀ env : Ev, env[0]? = some (some (.d (.str w))) → iTxt (eVar 0) env st = .ok (w.cps.toList.map fun c => PyData.str ⟨#[c]⟩) st := fun env h => by
    unfold iTxt
    rw [eVar_eq, h]
    rfl
  have sm2 : small (w.cps.toList.map fun c => PyData.str ⟨#[c]⟩).length = true := small_le _ (by rw [List.length_map, cps_len]; omega)
  have c1 := compL_mp (st := st) (tg := .nm 1) (tt := kYes) (ee := eOp vInSg (eVar 1) (eC (.str figs))) (env := [some (.d (.str w)), none]) (fun c : Nat => PyData.str ⟨#[c]⟩) (fun c => PyData.bool (decide (c ∈ digs))) w.cps.toList (fun c _ => ⟨_, rfl, rfl, by
    have vi : vInSg (.d (.str ⟨#[c]⟩)) (.d (.str figs)) st = some (.d (.bool (decide (c ∈ figs.cps.toList))), st) := rfl
    rw [figs_eq] at vi
    simp! only [ssE_ok, vi]⟩)
  have ba := bAll_mp (fun c : Nat => decide (c ∈ digs)) w.cps.toList st
  have it0 := it [some (.d (.str w)), none] rfl
  have fg : (PyData.str "0123456789") = .str figs := rfl
  rw [e_number_in]
  by_cases h1 : (w == "") = true
  · have e : nP w = none := by unfold nP isNum; rw [h1]; rfl
    rw [e]
    simp! only [ssE_ok, m_number_in, wEq, h1, fin_d st ok]
    rfl
  · have h1 : (w == "") = false := by simpa using h1
    by_cases h2 : w.length ≤ 3
    · have d2 : decide ((w.length : Int) > 3) = false := decide_eq_false (by omega)
      by_cases h3 : w.cps.toList.all (fun c => decide (c ∈ digs)) = true
      · have hn : isNum w = true := by unfold isNum; rw [h1, h3, decide_eq_true h2]; rfl
        obtain ⟨k, e, hk⟩ := num_all hn
        have bi : bIntS [.d (.str w)] st = some (.d (.int k), st) := by
          simp only [bIntS, e]
          rw [if_pos (by omega)]
        have si := strI_ok (i := (k : Int)) (by omega) (by omega) st
        have ve : vNe (.d (.str w)) (.d (.str (iT k))) st = some (.d (.bool (!(w == iT k))), st) := by simp only [vNe, datOf, fits_str, if_true, eqv_str]
        rw [h3] at ba
        have np : nP w = if w == iT k then some k else none := by
          unfold nP
          rw [if_pos hn, e]
          simp only [Int.toNat_natCast]
        cases q : w == iT k with
        | true =>
          rw [q] at ve np
          rw [np]
          simp! only [ssE_ok, m_number_in, wEq, h1, bl, d2, fg, it0, sm2, c1, ba, bi, si, ve, Bool.not_true, fin_d st ok]
          rfl
        | false =>
          rw [q] at ve np
          rw [np]
          simp! only [ssE_ok, m_number_in, wEq, h1, bl, d2, fg, it0, sm2, c1, ba, bi, si, ve, Bool.not_false, fin_d st ok]
          rfl
      · have h3 : w.cps.toList.all (fun c => decide (c ∈ digs)) = false := by simpa using h3
        have e : nP w = none := by unfold nP isNum; rw [h1, h3, Bool.and_false]; rfl
        rw [h3] at ba
        rw [e]
        simp! only [ssE_ok, m_number_in, wEq, h1, bl, d2, fg, it0, sm2, c1, ba, fin_d st ok]
        rfl
    · have d2 : decide ((w.length : Int) > 3) = true := decide_eq_true (by omega)
      have e : nP w = none := by unfold nP isNum; rw [decide_eq_false h2, Bool.and_false, Bool.false_and]; rfl
      rw [e]
      simp! only [ssE_ok, m_number_in, wEq, h1, bl, d2, fin_d st ok]
      rfl
end Lw
end

section
set_option maxRecDepth 100000
set_option maxHeartbeats 1000000
namespace Lw
open PySem PySem.Spec L2 Mi
/-! ### sayings as rows of words, plainly -/
def wds : Pl → List Str
  | .fact i => ["fact", iT (i : Nat)]
  | .no p => "not" :: wds p
  | .holds m p => "holds" :: iT (m : Nat) :: wds p
  | .may m p => "may" :: iT (m : Nat) :: wds p
  | .all p => "all" :: wds p
  | .com p => "common" :: wds p
  | .an p q => "and" :: (wds p ++ wds q)
  | .or p q => "or" :: (wds p ++ wds q)
def kw (w : Str) : Option Nat := if w = "fact" then some 0 else if w = "not" then some 1 else if w = "and" then some 2 else if w = "or" then some 2 else if w = "holds" then some 1 else if w = "may" then some 1 else if w = "all" then some 1 else if w = "common" then some 1 else none
def nm (w : Str) : Bool := decide (w = "fact" ∨ w = "holds" ∨ w = "may")
def manyG (f : List Str → Option (D × List Str)) : Nat → List Str → Option (List D × List Str)
  | 0, ws => some ([], ws)
  | m + 1, ws => match f ws with
    | none => none
    | some (t, r) => match manyG f m r with
      | none => none
      | some (ts, r') => some (t :: ts, r')
def stepG (ar : Str → Option Nat) (f : List Str → Option (D × List Str)) (w : Str) (made : List D) (ws : List Str) : Option (D × List Str) := match ar w with
  | none => none
  | some m => match manyG f m ws with
    | none => none
    | some (ts, r) => some (.tuple (made ++ ts), r)
def PG (num : Str → Option Nat) (ar : Str → Option Nat) : Nat → List Str → Option (D × List Str)
  | 0, _ => none
  | _ + 1, [] => none
  | k + 1, w :: ws => if nm w = true then (match ws with
      | [] => none
      | v :: r => match num v with
        | none => none
        | some i => stepG ar (PG num ar k) w [.str w, .int (i : Nat)] r)
    else stepG ar (PG num ar k) w [.str w] ws
inductive LT where
  | fact (i : Nat)
  | no (p : LT)
  | holds (m : Nat) (p : LT)
  | may (m : Nat) (p : LT)
  | all (p : LT)
  | com (p : LT)
  | an (p q : LT)
  | or (p q : LT)
  | un (w : Str) (ds : List D)
def LT.d : LT → D
  | .fact i => .tuple [.str "fact", .int i]
  | .no p => .tuple [.str "not", p.d]
  | .holds m p => .tuple [.str "holds", .int m, p.d]
  | .may m p => .tuple [.str "may", .int m, p.d]
  | .all p => .tuple [.str "all", p.d]
  | .com p => .tuple [.str "common", p.d]
  | .an p q => .tuple [.str "and", p.d, q.d]
  | .or p q => .tuple [.str "or", p.d, q.d]
  | .un w ds => .tuple (.str w :: ds)
def LT.deep : LT → Nat
  | .fact _ => 1
  | .no p => p.deep + 1
  | .holds _ p => p.deep + 1
  | .may _ p => p.deep + 1
  | .all p => p.deep + 1
  | .com p => p.deep + 1
  | .an p q => max p.deep q.deep + 1
  | .or p q => max p.deep q.deep + 1
  | .un _ _ => 1
def LT.wf : LT → Prop
  | .fact _ => True
  | .no p => p.wf
  | .holds _ p => p.wf
  | .may _ p => p.wf
  | .all p => p.wf
  | .com p => p.wf
  | .an p q => p.wf ∧ q.wf
  | .or p q => p.wf ∧ q.wf
  | .un w ds => kw w = none ∧ ds.length = 9 ∧ ∀ x ∈ ds, x.plain = true
def LT.pl : LT → Option Pl
  | .fact i => some (.fact i)
  | .no p => p.pl.map .no
  | .holds m p => p.pl.map (.holds m)
  | .may m p => p.pl.map (.may m)
  | .all p => p.pl.map .all
  | .com p => p.pl.map .com
  | .an p q => match p.pl, q.pl with
    | some a, some b => some (.an a b)
    | _, _ => none
  | .or p q => match p.pl, q.pl with
    | some a, some b => some (.or a b)
    | _, _ => none
  | .un _ _ => none
theorem LT.plain : ∀ (t : LT), t.wf → t.d.plain = true
  | .fact i, _ => by simp [LT.d, PyData.plain, PyData.plainAll]
  | .no p, h => by have := p.plain h; simp [LT.d, PyData.plain, PyData.plainAll, this]
  | .holds m p, h => by have := p.plain h; simp [LT.d, PyData.plain, PyData.plainAll, this]
  | .may m p, h => by have := p.plain h; simp [LT.d, PyData.plain, PyData.plainAll, this]
  | .all p, h => by have := p.plain h; simp [LT.d, PyData.plain, PyData.plainAll, this]
  | .com p, h => by have := p.plain h; simp [LT.d, PyData.plain, PyData.plainAll, this]
  | .an p q, h => by have := p.plain h.1; have := q.plain h.2; simp [LT.d, PyData.plain, PyData.plainAll, *]
  | .or p q, h => by have := p.plain h.1; have := q.plain h.2; simp [LT.d, PyData.plain, PyData.plainAll, *]
  | .un w ds, h => by
    have : PyData.plainAll ds = true := plainAll_mp' ds h.2.2
    simp [LT.d, PyData.plain, PyData.plainAll, this]
where plainAll_mp' : ∀ ds : List D, (∀ x ∈ ds, x.plain = true) → PyData.plainAll ds = true
  | [], _ => rfl
  | x :: r, h => by
    have a := h x List.mem_cons_self
    have b := plainAll_mp' r fun y hy => h y (List.mem_cons_of_mem _ hy)
    simp only [PyData.plainAll, a, b, Bool.and_self]
/-! what is read -/
section
variable {num : Str → Option Nat} {ar : Str → Option Nat}
theorem PG_of (hn : ∀ i : Nat, i < 4 → num (iT (i : Nat)) = some i) (ha : ∀ w m, kw w = some m → ar w = some m) : ∀ (p : Pl), p.ok 3 4 → ∀ (k : Nat), p.deep ≤ k → ∀ rest, PG num ar k (wds p ++ rest) = some (p.d, rest) := by
  have a0 : ar "fact" = some 0 := ha _ _ (by decide +kernel)
  have a1 : ar "not" = some 1 := ha _ _ (by decide +kernel)
  have a2 : ar "and" = some 2 := ha _ _ (by decide +kernel)
  have a3 : ar "or" = some 2 := ha _ _ (by decide +kernel)
  have a4 : ar "holds" = some 1 := ha _ _ (by decide +kernel)
  have a5 : ar "may" = some 1 := ha _ _ (by decide +kernel)
  have a6 : ar "all" = some 1 := ha _ _ (by decide +kernel)
  have a7 : ar "common" = some 1 := ha _ _ (by decide +kernel)
  have n0 : nm "fact" = true := by decide +kernel
  have n1 : nm "not" = false := by decide +kernel
  have n2 : nm "and" = false := by decide +kernel
  have n3 : nm "or" = false := by decide +kernel
  have n4 : nm "holds" = true := by decide +kernel
  have n5 : nm "may" = true := by decide +kernel
  have n6 : nm "all" = false := by decide +kernel
  have n7 : nm "common" = false := by decide +kernel
  intro p
  induction p with
  | fact i =>
    intro h k hk rest
    obtain ⟨k, rfl⟩ : ∃ j, k = j + 1 := ⟨k - 1, by simp only [Pl.deep] at hk; omega⟩
    simp only [wds, List.cons_append, List.nil_append, PG, n0, if_true, hn i h, stepG, a0, manyG, List.append_nil, Pl.d]
  | no p ih =>
    intro h k hk rest
    obtain ⟨k, rfl⟩ : ∃ j, k = j + 1 := ⟨k - 1, by simp only [Pl.deep] at hk; omega⟩
    have e := ih h k (by simp only [Pl.deep] at hk; omega) rest
    simp only [wds, List.cons_append, List.nil_append, PG, n1, if_false, Bool.false_eq_true, stepG, a1, manyG, e, Pl.d]
  | holds m p ih =>
    intro h k hk rest
    obtain ⟨k, rfl⟩ : ∃ j, k = j + 1 := ⟨k - 1, by simp only [Pl.deep] at hk; omega⟩
    have e := ih h.2 k (by simp only [Pl.deep] at hk; omega) rest
    simp only [wds, List.cons_append, List.nil_append, PG, n4, if_true, hn m (Nat.lt_succ_of_lt h.1), stepG, a4, manyG, e, Pl.d]
  | may m p ih =>
    intro h k hk rest
    obtain ⟨k, rfl⟩ : ∃ j, k = j + 1 := ⟨k - 1, by simp only [Pl.deep] at hk; omega⟩
    have e := ih h.2 k (by simp only [Pl.deep] at hk; omega) rest
    simp only [wds, List.cons_append, List.nil_append, PG, n5, if_true, hn m (Nat.lt_succ_of_lt h.1), stepG, a5, manyG, e, Pl.d]
  | all p ih =>
    intro h k hk rest
    obtain ⟨k, rfl⟩ : ∃ j, k = j + 1 := ⟨k - 1, by simp only [Pl.deep] at hk; omega⟩
    have e := ih h k (by simp only [Pl.deep] at hk; omega) rest
    simp only [wds, List.cons_append, List.nil_append, PG, n6, if_false, Bool.false_eq_true, stepG, a6, manyG, e, Pl.d]
  | com p ih =>
    intro h k hk rest
    obtain ⟨k, rfl⟩ : ∃ j, k = j + 1 := ⟨k - 1, by simp only [Pl.deep] at hk; omega⟩
    have e := ih h k (by simp only [Pl.deep] at hk; omega) rest
    simp only [wds, List.cons_append, List.nil_append, PG, n7, if_false, Bool.false_eq_true, stepG, a7, manyG, e, Pl.d]
  | an p q ih ih2 =>
    intro h k hk rest
    obtain ⟨k, rfl⟩ : ∃ j, k = j + 1 := ⟨k - 1, by simp only [Pl.deep] at hk; omega⟩
    have e := ih h.1 k (by simp only [Pl.deep] at hk; omega) (wds q ++ rest)
    have e2 := ih2 h.2 k (by simp only [Pl.deep] at hk; omega) rest
    simp only [wds, List.cons_append, List.nil_append, List.append_assoc, PG, n2, if_false, Bool.false_eq_true, stepG, a2, manyG, e, e2, Pl.d]
  | or p q ih ih2 =>
    intro h k hk rest
    obtain ⟨k, rfl⟩ : ∃ j, k = j + 1 := ⟨k - 1, by simp only [Pl.deep] at hk; omega⟩
    have e := ih h.1 k (by simp only [Pl.deep] at hk; omega) (wds q ++ rest)
    have e2 := ih2 h.2 k (by simp only [Pl.deep] at hk; omega) rest
    simp only [wds, List.cons_append, List.nil_append, List.append_assoc, PG, n3, if_false, Bool.false_eq_true, stepG, a3, manyG, e, e2, Pl.d]
end
end Lw
end

section
set_option maxRecDepth 100000
set_option maxHeartbeats 1000000
namespace Lw
open PySem PySem.Spec L2 Mi
/-! ### what was read are words of a saying, or it is none -/
theorem many1 {f : List Str → Option (D × List Str)} {ws rest : List Str} {ts : List D} (h : manyG f 1 ws = some (ts, rest)) : ∃ t, f ws = some (t, rest) ∧ ts = [t] := by
  unfold manyG at h
  split at h
  · cases h
  · rename_i t r e
    simp only [manyG] at h
    cases h
    exact ⟨t, e, rfl⟩
theorem many2 {f : List Str → Option (D × List Str)} {ws rest : List Str} {ts : List D} (h : manyG f 2 ws = some (ts, rest)) : ∃ t u r, f ws = some (t, r) ∧ f r = some (u, rest) ∧ ts = [t, u] := by
  unfold manyG at h
  split at h
  · cases h
  · rename_i t r e
    split at h
    · cases h
    · rename_i us r2 e2
      obtain ⟨u, hu, rfl⟩ := many1 e2
      cases h
      exact ⟨t, u, r, e, hu, rfl⟩
theorem manyA {f : List Str → Option (D × List Str)} : ∀ {m : Nat} {ws rest : List Str} {ts : List D}, manyG f m ws = some (ts, rest) → ts.length = m ∧ ∀ x ∈ ts, ∃ a b, f a = some (x, b)
  | 0, ws, rest, ts, h => by
    simp only [manyG] at h
    cases h
    exact ⟨rfl, fun x hx => by cases hx⟩
  | m + 1, ws, rest, ts, h => by
    unfold manyG at h
    split at h
    · cases h
    · rename_i t r e
      split at h
      · cases h
      · rename_i us r2 e2
        have ih := manyA e2
        cases h
        refine ⟨by rw [List.length_cons, ih.1], fun x hx => ?_⟩
        rcases List.mem_cons.mp hx with rfl | hx
        · exact ⟨_, _, e⟩
        · exact ih.2 x hx
theorem stepA {ar : Str → Option Nat} {f : List Str → Option (D × List Str)} {w : Str} {made : List D} {ws rest : List Str} {t : D} (h : stepG ar f w made ws = some (t, rest)) : ∃ m ts, ar w = some m ∧ manyG f m ws = some (ts, rest) ∧ t = .tuple (made ++ ts) := by
  unfold stepG at h
  split at h
  · cases h
  · rename_i m hm
    split at h
    · cases h
    · rename_i ts r e
      cases h
      exact ⟨m, ts, hm, e, rfl⟩
theorem nm_cases {w : Str} (h : nm w = true) : w = "fact" ∨ w = "holds" ∨ w = "may" := of_decide_eq_true h
theorem kw_cases {w : Str} {m : Nat} (h : kw w = some m) : (w = "fact" ∧ m = 0) ∨ (w = "not" ∧ m = 1) ∨ (w = "and" ∧ m = 2) ∨ (w = "or" ∧ m = 2) ∨ (w = "holds" ∧ m = 1) ∨ (w = "may" ∧ m = 1) ∨ (w = "all" ∧ m = 1) ∨ (w = "common" ∧ m = 1) := by
  unfold kw at h
  split at h
  · rename_i e; cases h; exact .inl ⟨e, rfl⟩
  split at h
  · rename_i e; cases h; exact .inr (.inl ⟨e, rfl⟩)
  split at h
  · rename_i e; cases h; exact .inr (.inr (.inl ⟨e, rfl⟩))
  split at h
  · rename_i e; cases h; exact .inr (.inr (.inr (.inl ⟨e, rfl⟩)))
  split at h
  · rename_i e; cases h; exact .inr (.inr (.inr (.inr (.inl ⟨e, rfl⟩))))
  split at h
  · rename_i e; cases h; exact .inr (.inr (.inr (.inr (.inr (.inl ⟨e, rfl⟩)))))
  split at h
  · rename_i e; cases h; exact .inr (.inr (.inr (.inr (.inr (.inr (.inl ⟨e, rfl⟩))))))
  split at h
  · rename_i e; cases h; exact .inr (.inr (.inr (.inr (.inr (.inr (.inr ⟨e, rfl⟩))))))
  · cases h
section
variable {num : Str → Option Nat} {ar : Str → Option Nat}
theorem PG_is (hn : ∀ v i, num v = some i → v = iT (i : Nat)) (ha : ∀ w m, ar w = some m → kw w = some m ∨ (kw w = none ∧ m = 9)) : ∀ (k : Nat) (ws : List Str) (t : D) (rest : List Str), PG num ar k ws = some (t, rest) → ∃ τ : LT, t = τ.d ∧ τ.deep ≤ k ∧ τ.wf ∧ ∀ p, τ.pl = some p → ws = wds p ++ rest := by
  have n1 : nm "not" = false := by decide +kernel
  have n2 : nm "and" = false := by decide +kernel
  have n3 : nm "or" = false := by decide +kernel
  have n6 : nm "all" = false := by decide +kernel
  have n7 : nm "common" = false := by decide +kernel
  have k0 : kw "fact" = some 0 := by decide +kernel
  have k4 : kw "holds" = some 1 := by decide +kernel
  have k5 : kw "may" = some 1 := by decide +kernel
  intro k
  induction k with
  | zero => intro ws t rest h; simp [PG] at h
  | succ k ih =>
    intro ws t rest h
    cases ws with
    | nil => simp [PG] at h
    | cons w ws =>
      unfold PG at h
      by_cases hnm : nm w = true
      · rw [if_pos hnm] at h
        cases ws with
        | nil => cases h
        | cons v r =>
          cases hv : num v with
          | none => simp only [hv] at h; cases h
          | some i =>
            simp only [hv] at h
            obtain ⟨m, ts, hm, hts, rfl⟩ := stepA h
            have ev := hn v i hv
            have hk := ha w m hm
            rcases nm_cases hnm with rfl | rfl | rfl
            · rw [k0] at hk
              have e : m = 0 := by
                rcases hk with q | ⟨q, _⟩
                · exact (Option.some.inj q).symm
                · cases q
              subst e
              simp only [manyG] at hts
              cases hts
              exact ⟨.fact i, rfl, Nat.succ_le_succ (Nat.zero_le _), trivial, fun p hp => by cases hp; rw [ev]; rfl⟩
            · rw [k4] at hk
              have e : m = 1 := by
                rcases hk with q | ⟨q, _⟩
                · exact (Option.some.inj q).symm
                · cases q
              subst e
              obtain ⟨t1, h1, rfl⟩ := many1 hts
              obtain ⟨τ, rfl, hd, hw, hp⟩ := ih _ _ _ h1
              exact ⟨.holds i τ, rfl, Nat.succ_le_succ hd, hw, fun p hp2 => by
                obtain ⟨x, hx, rfl⟩ := Option.map_eq_some_iff.mp hp2
                rw [ev, hp x hx]; rfl⟩
            · rw [k5] at hk
              have e : m = 1 := by
                rcases hk with q | ⟨q, _⟩
                · exact (Option.some.inj q).symm
                · cases q
              subst e
              obtain ⟨t1, h1, rfl⟩ := many1 hts
              obtain ⟨τ, rfl, hd, hw, hp⟩ := ih _ _ _ h1
              exact ⟨.may i τ, rfl, Nat.succ_le_succ hd, hw, fun p hp2 => by
                obtain ⟨x, hx, rfl⟩ := Option.map_eq_some_iff.mp hp2
                rw [ev, hp x hx]; rfl⟩
      · rw [if_neg hnm] at h
        obtain ⟨m, ts, hm, hts, rfl⟩ := stepA h
        rcases ha w m hm with q | ⟨q, rfl⟩
        · rcases kw_cases q with ⟨rfl, rfl⟩ | ⟨rfl, rfl⟩ | ⟨rfl, rfl⟩ | ⟨rfl, rfl⟩ | ⟨rfl, rfl⟩ | ⟨rfl, rfl⟩ | ⟨rfl, rfl⟩ | ⟨rfl, rfl⟩
          · exact absurd (by decide +kernel) hnm
          · obtain ⟨t1, h1, rfl⟩ := many1 hts
            obtain ⟨τ, rfl, hd, hw, hp⟩ := ih _ _ _ h1
            exact ⟨.no τ, rfl, Nat.succ_le_succ hd, hw, fun p hp2 => by
              obtain ⟨x, hx, rfl⟩ := Option.map_eq_some_iff.mp hp2
              rw [hp x hx]; rfl⟩
          · obtain ⟨t1, t2, r, h1, h2, rfl⟩ := many2 hts
            obtain ⟨τ, rfl, hd, hw, hp⟩ := ih _ _ _ h1
            obtain ⟨τ2, rfl, hd2, hw2, hp2⟩ := ih _ _ _ h2
            exact ⟨.an τ τ2, rfl, Nat.succ_le_succ (Nat.max_le.mpr ⟨hd, hd2⟩), ⟨hw, hw2⟩, fun p hq => by
              simp only [LT.pl] at hq
              split at hq
              · rename_i x y hx hy
                cases hq
                rw [hp x hx, hp2 y hy]; simp only [wds, List.cons_append, List.append_assoc]
              · cases hq⟩
          · obtain ⟨t1, t2, r, h1, h2, rfl⟩ := many2 hts
            obtain ⟨τ, rfl, hd, hw, hp⟩ := ih _ _ _ h1
            obtain ⟨τ2, rfl, hd2, hw2, hp2⟩ := ih _ _ _ h2
            exact ⟨.or τ τ2, rfl, Nat.succ_le_succ (Nat.max_le.mpr ⟨hd, hd2⟩), ⟨hw, hw2⟩, fun p hq => by
              simp only [LT.pl] at hq
              split at hq
              · rename_i x y hx hy
                cases hq
                rw [hp x hx, hp2 y hy]; simp only [wds, List.cons_append, List.append_assoc]
              · cases hq⟩
          · exact absurd (by decide +kernel) hnm
          · exact absurd (by decide +kernel) hnm
          · obtain ⟨t1, h1, rfl⟩ := many1 hts
            obtain ⟨τ, rfl, hd, hw, hp⟩ := ih _ _ _ h1
            exact ⟨.all τ, rfl, Nat.succ_le_succ hd, hw, fun p hp2 => by
              obtain ⟨x, hx, rfl⟩ := Option.map_eq_some_iff.mp hp2
              rw [hp x hx]; rfl⟩
          · obtain ⟨t1, h1, rfl⟩ := many1 hts
            obtain ⟨τ, rfl, hd, hw, hp⟩ := ih _ _ _ h1
            exact ⟨.com τ, rfl, Nat.succ_le_succ hd, hw, fun p hp2 => by
              obtain ⟨x, hx, rfl⟩ := Option.map_eq_some_iff.mp hp2
              rw [hp x hx]; rfl⟩
        · have A := manyA hts
          refine ⟨.un w ts, rfl, Nat.succ_le_succ (Nat.zero_le _), ⟨q, A.1, fun x hx => ?_⟩, fun p hp => by cases hp⟩
          obtain ⟨a, b, e⟩ := A.2 x hx
          obtain ⟨τ, rfl, _, hw, _⟩ := ih _ _ _ e
          exact τ.plain hw
end
end Lw
end

section
set_option maxRecDepth 100000
set_option maxHeartbeats 1000000
namespace Lw
open PySem PySem.Spec L2 Mi
/-! ### the literal dicts of both readers -/
abbrev gP : List (Str × Int) := [("fact", 0), ("and", 2), ("or", 2), ("not", 1), ("holds", 1), ("may", 1), ("all", 1), ("common", 1)]
abbrev gL : List (Str × Int) := [("fact", 0), ("not", 1), ("and", 2), ("or", 2), ("holds", 1), ("may", 1), ("all", 1), ("common", 1)]
theorem litP : (litK gP).map (fun p => p.1) = [.inr "fact", .inr "and", .inr "or", .inr "not", .inr "holds", .inr "may", .inr "all", .inr "common"] := by decide +kernel
theorem litL : (litK gL).map (fun p => p.1) = [.inr "fact", .inr "not", .inr "and", .inr "or", .inr "holds", .inr "may", .inr "all", .inr "common"] := by decide +kernel
theorem kw_none {w : Str} (h : kw w = none) : w ≠ "fact" ∧ w ≠ "not" ∧ w ≠ "and" ∧ w ≠ "or" ∧ w ≠ "holds" ∧ w ≠ "may" ∧ w ≠ "all" ∧ w ≠ "common" := by
  refine ⟨?_, ?_, ?_, ?_, ?_, ?_, ?_, ?_⟩ <;> (intro e; rw [e] at h; revert h; decide +kernel)
theorem val_none {kvs : List (Key × V)} {k : Key} (h : k ∉ kvs.map (fun p => p.1)) : valV kvs k = none := by
  unfold valV
  rw [List.find?_eq_none.mpr]
  · rfl
  · intro p hp e
    exact h (List.mem_map.mpr ⟨p, hp, of_decide_eq_true e⟩)
theorem val_P (w : Str) : valV (litK gP) (.inr w) = (kw w).map fun m => V.int (m : Nat) := by
  cases h : kw w with
  | none =>
    obtain ⟨h0, h1, h2, h3, h4, h5, h6, h7⟩ := kw_none h
    refine val_none ?_
    rw [litP]
    simp only [List.mem_cons, List.not_mem_nil, or_false, Sum.inr.injEq]
    intro q
    rcases q with q | q | q | q | q | q | q | q <;> contradiction
  | some m =>
    rcases kw_cases h with ⟨rfl, rfl⟩ | ⟨rfl, rfl⟩ | ⟨rfl, rfl⟩ | ⟨rfl, rfl⟩ | ⟨rfl, rfl⟩ | ⟨rfl, rfl⟩ | ⟨rfl, rfl⟩ | ⟨rfl, rfl⟩ <;> rfl
theorem val_L (w : Str) : valV (litK gL) (.inr w) = (kw w).map fun m => V.int (m : Nat) := by
  cases h : kw w with
  | none =>
    obtain ⟨h0, h1, h2, h3, h4, h5, h6, h7⟩ := kw_none h
    refine val_none ?_
    rw [litL]
    simp only [List.mem_cons, List.not_mem_nil, or_false, Sum.inr.injEq]
    intro q
    rcases q with q | q | q | q | q | q | q | q <;> contradiction
  | some m =>
    rcases kw_cases h with ⟨rfl, rfl⟩ | ⟨rfl, rfl⟩ | ⟨rfl, rfl⟩ | ⟨rfl, rfl⟩ | ⟨rfl, rfl⟩ | ⟨rfl, rfl⟩ | ⟨rfl, rfl⟩ | ⟨rfl, rfl⟩ <;> rfl
theorem get_P {ea : EE} {env : Ev} {st s : Sto} {w : Str} (he : ea env st = .ok (.d (.str w)) s) : eLitGet gP ea env st = .ok (.d (oD (kw w))) s := by
  unfold eLitGet
  rw [he]
  simp only [R.bind_ok, val_P]
  cases kw w <;> rfl
def arL (w : Str) : Option Nat := some ((kw w).getD 9)
theorem get_L {ea : EE} {env : Ev} {st s : Sto} {w : Str} (he : ea env st = .ok (.d (.str w)) s) : eLitGet2 gL ea 9 env st = .ok (.d (.int ((kw w).getD 9 : Nat))) s := by
  unfold eLitGet2
  rw [he]
  simp only [R.bind_ok, val_L]
  cases kw w <;> rfl
theorem nm_in (w : Str) (st : Sto) : vIn (.d (.str w)) (.d (.tuple [.str "fact", .str "holds", .str "may"])) st = some (.d (.bool (nm w)), st) := by
  have f : fitsIn [.str "fact", .str "holds", .str "may"] (.str w) = true := rfl
  have e : ([PyData.str "fact", .str "holds", .str "may"].any fun y => PyData.eqv y (.str w)) = nm w := by
    unfold nm
    simp only [List.any_cons, List.any_nil, Bool.or_false]
    show (("fact" : Str) == w || (("holds" : Str) == w || ("may" : Str) == w)) = _
    rw [Bool.eq_iff_iff]
    simp only [Bool.or_eq_true, beq_iff_eq, decide_eq_true_eq]
    constructor
    · rintro (h | h | h)
      · exact .inl h.symm
      · exact .inr (.inl h.symm)
      · exact .inr (.inr h.symm)
    · rintro (h | h | h)
      · exact .inl h.symm
      · exact .inr (.inl h.symm)
      · exact .inr (.inr h.symm)
  simp only [vIn, datOf, sqOf, f, if_true, e]
/-- the numbers that the law reads -/
def nQ (w : Str) : Option Nat := if w = "0" then some 0 else if w = "1" then some 1 else if w = "2" then some 2 else if w = "3" then some 3 else none
theorem nQ_is {w : Str} {i : Nat} (h : nQ w = some i) : w = iT (i : Nat) := by
  unfold nQ at h
  split at h
  · rename_i e; cases h; rw [e]; decide +kernel
  split at h
  · rename_i e; cases h; rw [e]; decide +kernel
  split at h
  · rename_i e; cases h; rw [e]; decide +kernel
  split at h
  · rename_i e; cases h; rw [e]; decide +kernel
  · cases h
theorem nQ_of (i : Nat) (h : i < 4) : nQ (iT (i : Nat)) = some i := by
  have : ∀ i : Nat, i < 4 → nQ (iT (i : Nat)) = some i := by decide +kernel
  exact this i h
theorem arL_is : ∀ w m, arL w = some m → kw w = some m ∨ (kw w = none ∧ m = 9) := fun w m h => by
  unfold arL at h
  cases e : kw w with
  | none => rw [e] at h; exact .inr ⟨rfl, (Option.some.inj h).symm⟩
  | some k => rw [e] at h; exact .inl (by rw [← Option.some.inj h]; rfl)
theorem arL_of : ∀ w m, kw w = some m → arL w = some m := fun w m h => by unfold arL; rw [h]; rfl
abbrev PP := PG nP kw
abbrev PL := PG nQ arL
theorem PP_of {p : Pl} (h : p.ok 3 4) {k : Nat} (hk : p.deep ≤ k) (rest : List Str) : PP k (wds p ++ rest) = some (p.d, rest) := PG_of (fun i hi => nP_iT (by omega)) (fun _ _ h => h) p h k hk rest
theorem PL_of {p : Pl} (h : p.ok 3 4) {k : Nat} (hk : p.deep ≤ k) (rest : List Str) : PL k (wds p ++ rest) = some (p.d, rest) := PG_of nQ_of arL_of p h k hk rest
theorem PP_is {k : Nat} {ws rest : List Str} {t : D} (h : PP k ws = some (t, rest)) : ∃ τ : LT, t = τ.d ∧ τ.deep ≤ k ∧ τ.wf ∧ ∀ p, τ.pl = some p → ws = wds p ++ rest := PG_is (fun v i hv => (nP_some hv).1) (fun w m h => .inl h) k ws t rest h
theorem PL_is {k : Nat} {ws rest : List Str} {t : D} (h : PL k ws = some (t, rest)) : ∃ τ : LT, t = τ.d ∧ τ.deep ≤ k ∧ τ.wf ∧ ∀ p, τ.pl = some p → ws = wds p ++ rest := PG_is (fun v i hv => nQ_is hv) arL_is k ws t rest h
/-! what is left is an end of it -/
section
variable {num : Str → Option Nat} {ar : Str → Option Nat}
theorem many_suf {f : List Str → Option (D × List Str)} (hf : ∀ ws t r, f ws = some (t, r) → r <:+ ws) : ∀ (m : Nat) (ws : List Str) (ts : List D) (r : List Str), manyG f m ws = some (ts, r) → r <:+ ws
  | 0, ws, ts, r, h => by
    simp only [manyG] at h
    cases h
    exact List.suffix_refl _
  | m + 1, ws, ts, r, h => by
    unfold manyG at h
    split at h
    · cases h
    · rename_i t r1 e
      split at h
      · cases h
      · rename_i us r2 e2
        cases h
        exact (many_suf hf m _ _ _ e2).trans (hf _ _ _ e)
theorem PG_suf : ∀ (k : Nat) (ws : List Str) (t : D) (r : List Str), PG num ar k ws = some (t, r) → r <:+ ws := by
  intro k
  induction k with
  | zero => intro ws t r h; simp [PG] at h
  | succ k ih =>
    intro ws t r h
    cases ws with
    | nil => simp [PG] at h
    | cons w ws =>
      unfold PG at h
      by_cases hnm : nm w = true
      · rw [if_pos hnm] at h
        cases ws with
        | nil => cases h
        | cons v ws =>
          cases hv : num v with
          | none => simp only [hv] at h; cases h
          | some i =>
            simp only [hv] at h
            obtain ⟨m, ts, _, hts, _⟩ := stepA h
            exact (many_suf ih _ _ _ _ hts).trans ((List.suffix_cons _ _).trans (List.suffix_cons _ _))
      · rw [if_neg hnm] at h
        obtain ⟨m, ts, _, hts, _⟩ := stepA h
        exact (many_suf ih _ _ _ _ hts).trans (List.suffix_cons _ _)
end
end Lw
end

section
set_option maxRecDepth 100000
set_option maxHeartbeats 4000000
namespace Lw
open PySem PySem.Spec L2 Mi
/-! ### size_of what was read -/
def LT.sz (m f : Nat) : LT → Option Nat
  | .fact i => if i < f then some 1 else none
  | .no p => (p.sz m f).map (· + 1)
  | .holds k p => if k < m then (p.sz m f).map (· + 1) else none
  | .may k p => if k < m then (p.sz m f).map (· + 1) else none
  | .all p => (p.sz m f).map (· + 1)
  | .com p => (p.sz m f).map (· + 1)
  | .an p q => match p.sz m f, q.sz m f with
    | some a, some b => some (max a b + 1)
    | _, _ => none
  | .or p q => match p.sz m f, q.sz m f with
    | some a, some b => some (max a b + 1)
    | _, _ => none
  | .un _ _ => none
def szO : Option Nat → D
  | none => .none
  | some a => szD a 0
theorem LT.sz_pl (m f : Nat) : ∀ (t : LT) (a : Nat), t.sz m f = some a → ∃ p, t.pl = some p ∧ p.ok m f ∧ a = p.deep
  | .fact i, a, h => by
    simp only [LT.sz] at h
    split at h
    · rename_i hi; cases h; exact ⟨.fact i, rfl, hi, rfl⟩
    · cases h
  | .no t, a, h => by
    obtain ⟨b, hb, rfl⟩ := Option.map_eq_some_iff.mp h
    obtain ⟨p, h1, h2, h3⟩ := LT.sz_pl m f t b hb
    exact ⟨.no p, by simp only [LT.pl, h1, Option.map_some], h2, by rw [h3]; rfl⟩
  | .holds k t, a, h => by
    simp only [LT.sz] at h
    split at h
    · rename_i hk
      obtain ⟨b, hb, rfl⟩ := Option.map_eq_some_iff.mp h
      obtain ⟨p, h1, h2, h3⟩ := LT.sz_pl m f t b hb
      exact ⟨.holds k p, by simp only [LT.pl, h1, Option.map_some], ⟨hk, h2⟩, by rw [h3]; rfl⟩
    · cases h
  | .may k t, a, h => by
    simp only [LT.sz] at h
    split at h
    · rename_i hk
      obtain ⟨b, hb, rfl⟩ := Option.map_eq_some_iff.mp h
      obtain ⟨p, h1, h2, h3⟩ := LT.sz_pl m f t b hb
      exact ⟨.may k p, by simp only [LT.pl, h1, Option.map_some], ⟨hk, h2⟩, by rw [h3]; rfl⟩
    · cases h
  | .all t, a, h => by
    obtain ⟨b, hb, rfl⟩ := Option.map_eq_some_iff.mp h
    obtain ⟨p, h1, h2, h3⟩ := LT.sz_pl m f t b hb
    exact ⟨.all p, by simp only [LT.pl, h1, Option.map_some], h2, by rw [h3]; rfl⟩
  | .com t, a, h => by
    obtain ⟨b, hb, rfl⟩ := Option.map_eq_some_iff.mp h
    obtain ⟨p, h1, h2, h3⟩ := LT.sz_pl m f t b hb
    exact ⟨.com p, by simp only [LT.pl, h1, Option.map_some], h2, by rw [h3]; rfl⟩
  | .an t u, a, h => by
    simp only [LT.sz] at h
    split at h
    · rename_i x y hx hy
      cases h
      obtain ⟨p, h1, h2, h3⟩ := LT.sz_pl m f t x hx
      obtain ⟨q, k1, k2, k3⟩ := LT.sz_pl m f u y hy
      exact ⟨.an p q, by simp only [LT.pl, h1, k1], ⟨h2, k2⟩, by rw [h3, k3]; rfl⟩
    · cases h
  | .or t u, a, h => by
    simp only [LT.sz] at h
    split at h
    · rename_i x y hx hy
      cases h
      obtain ⟨p, h1, h2, h3⟩ := LT.sz_pl m f t x hx
      obtain ⟨q, k1, k2, k3⟩ := LT.sz_pl m f u y hy
      exact ⟨.or p q, by simp only [LT.pl, h1, k1], ⟨h2, k2⟩, by rw [h3, k3]; rfl⟩
    · cases h
  | .un w ds, a, h => by cases h
theorem vE0 {x : D} {xs : List D} (h : PyData.plainAll (x :: xs) = true) (st : Sto) : vEq (.d (.tuple (x :: xs))) (.d (.tuple [])) st = some (.d (.bool false), st) := by
  simp only [vEq, datOf, fits0 x xs h, if_true]
  rfl
theorem in2 (w a b : Str) (st : Sto) : vIn (.d (.str w)) (.d (.tuple [.str a, .str b])) st = some (.d (.bool (a == w || b == w)), st) := by
  have f : fitsIn [.str a, .str b] (.str w) = true := rfl
  have e : ([PyData.str a, .str b].any fun y => PyData.eqv y (.str w)) = (a == w || b == w) := by
    simp only [List.any_cons, List.any_nil, Bool.or_false]
    rfl
  simp only [vIn, datOf, sqOf, f, if_true, e]
theorem nin3 (w a b c : Str) (st : Sto) : vNin (.d (.str w)) (.d (.tuple [.str a, .str b, .str c])) st = some (.d (.bool (!(a == w || (b == w || c == w)))), st) := by
  have f : fitsIn [.str a, .str b, .str c] (.str w) = true := rfl
  have e : ([PyData.str a, .str b, .str c].any fun y => PyData.eqv y (.str w)) = (a == w || (b == w || c == w)) := by
    simp only [List.any_cons, List.any_nil, Bool.or_false]
    rfl
  simp only [vNin, datOf, sqOf, f, if_true, e]
theorem beq_ne {a b : Str} (h : b ≠ a) : (a == b) = false := by
  cases e : a == b with
  | false => rfl
  | true => exact absurd (eq_of_beq e).symm h
theorem c_size_un (m f : Nat) {w : Str} {ds : List D} (hw : kw w = none) (hl : ds.length = 9) (hp : ∀ x ∈ ds, x.plain = true) (n : Nat) (st : Sto) (h : Okk st) : Fs (n + 2) i_size_of [.d (.int m), .d (.int f), .d (.tuple (.str w :: ds))] st = .ok (.d .none) st := by
  obtain ⟨h0, h1, h2, h3, h4, h5, h6, h7⟩ := kw_none hw
  have pl : PyData.plainAll (.str w :: ds) = true := by
    have := LT.plain.plainAll_mp' ds hp
    simp [PyData.plainAll, PyData.plain, this]
  have e0 := vE0 pl st
  have ty : tyOf (.d (.tuple (.str w :: ds))) st = some "tuple" := rfl
  have tw : tyOf (.d (.str w)) st = some "str" := rfl
  have i0 : vIx (.d (.tuple (.str w :: ds))) (.d (.int 0)) st = some (.d (.str w), st) := by
    have q : atI (.str w :: ds) ((0 : Nat) : Int) = some (.str w) := atI_nat rfl
    simp only [vIx, sqOf, lsOf]
    exact congrArg (Option.map fun v => (Val.d v, st)) q
  have s0 : small 0 = true := rfl
  have s2 : small 2 = true := rfl
  have s3 : small 3 = true := rfl
  have bl : bLen [.d (.list ds)] st = some (.d (.int 9), st) := by simp only [bLen, lenOf, sqOf, lsOf, Option.map_some, hl]; rfl
  have n3 : vNe (.d (.int 9)) (.d (.int 3)) st = some (.d (.bool true), st) := rfl
  have af := wEq w "after" st
  have a1 := wEq w "fact" st
  rw [beq_ne (a := w) (b := "fact") h0.symm] at a1
  have a2 := in2 w "holds" "may" st
  rw [beq_ne h4, beq_ne h5] at a2
  have a3 := in2 w "and" "or" st
  rw [beq_ne h2, beq_ne h3] at a3
  have a4 := nin3 w "not" "all" "common" st
  rw [beq_ne h1, beq_ne h6, beq_ne h7] at a4
  have ra : Fs (n + 1) i_size_after [.d (.int m), .d (.int f), .d (.list ds)] st = .ok (.d .none) st := by
    rw [e_size_after]
    simp! only [ssE_ok, m_size_after, bl, n3, fin_d st h]
  rw [e_size_of]
  cases q : w == "after" with
  | true =>
    rw [q] at af
    simp! only [ssE_ok, m_size_of, ty, tw, toDs, s0, e0, i0, a1, af, ra, fin_d st h]
  | false =>
    rw [q] at af
    simp! only [ssE_ok, m_size_of, ty, tw, toDs, s0, s2, s3, e0, i0, a1, af, a2, a3, a4, Bool.or_self, Bool.not_false, fin_d st h]
end Lw
end

section
set_option maxRecDepth 100000
set_option maxHeartbeats 4000000
namespace Lw
open PySem PySem.Spec L2 Mi
theorem no_szO (o : Option Nat) (st : Sto) : vIn (.d .none) (.d (.list [szO o])) st = some (.d (.bool o.isNone), st) := by
  cases o <;> rfl
theorem no_szO2 (o q : Option Nat) (st : Sto) : vIn (.d .none) (.d (.list [szO o, szO q])) st = some (.d (.bool (o.isNone || q.isNone)), st) := by
  cases o <;> cases q <;> rfl
section
variable (m f : Nat)
theorem c_size_1 {w : Str} (hw : w = "not" ∨ w = "all" ∨ w = "common") {d : D} (hd : d.plain = true) {o : Option Nat} (n : Nat) (st : Sto) (h : Okk st) (r : Fs (n + 1) i_size_of [.d (.int m), .d (.int f), .d d] st = .ok (.d (szO o)) st) : Fs (n + 2) i_size_of [.d (.int m), .d (.int f), .d (.tuple [.str w, d])] st = .ok (.d (szO (o.map (· + 1)))) st := by
  have pl : PyData.plainAll [.str w, d] = true := by simp [PyData.plainAll, PyData.plain, hd]
  have e0 := vE0 pl st
  have ty : tyOf (.d (.tuple [.str w, d])) st = some "tuple" := rfl
  have tw : tyOf (.d (.str w)) st = some "str" := rfl
  have i0 : vIx (.d (.tuple [.str w, d])) (.d (.int 0)) st = some (.d (.str w), st) := rfl
  have s0 : small 0 = true := rfl
  have s1 : small 1 = true := rfl
  have s2 : small 2 = true := rfl
  have s3 : small 3 = true := rfl
  have bl : bLen [.d (.list [d])] st = some (.d (.int 1), st) := rfl
  have n1 : vNe (.d (.int 1)) (.d (.int 1)) st = some (.d (.bool false), st) := rfl
  have a1 := wEq w "fact" st
  rw [show (w == "fact") = false by rcases hw with rfl | rfl | rfl <;> decide +kernel] at a1
  have af := wEq w "after" st
  rw [show (w == "after") = false by rcases hw with rfl | rfl | rfl <;> decide +kernel] at af
  have a2 := in2 w "holds" "may" st
  rw [show (("holds" : Str) == w || ("may" : Str) == w) = false by rcases hw with rfl | rfl | rfl <;> decide +kernel] at a2
  have a3 := in2 w "and" "or" st
  rw [show (("and" : Str) == w || ("or" : Str) == w) = false by rcases hw with rfl | rfl | rfl <;> decide +kernel] at a3
  have a4 := nin3 w "not" "all" "common" st
  rw [show (!(("not" : Str) == w || (("all" : Str) == w || ("common" : Str) == w))) = false by rcases hw with rfl | rfl | rfl <;> decide +kernel] at a4
  have sql : ∀ (l : List D) (st : Sto), (R.ok (.d (.list l)) st).seqI = .ok l st := fun _ _ => rfl
  have ni := no_szO o st
  rw [e_size_of]
  cases o with
  | none =>
    have ni : vIn (.d .none) (.d (.list [szO none])) st = some (.d (.bool true), st) := ni
    simp! only [ssE_ok, m_size_of, ty, tw, toDs, s0, s1, s2, s3, e0, i0, a1, af, a2, a3, a4, bl, n1, sql, compL, noX_ok, R.bind, r, ni, fin_d st h]
    rfl
  | some a =>
    have ni : vIn (.d .none) (.d (.list [szO (some a)])) st = some (.d (.bool false), st) := ni
    have sz : Fs (n + 1) i_sizes_of [.d (.list [szO (some a)])] st = .ok (.d (.tuple [.int a, .int 0])) st := c_sizes1 n a 0 st h
    have ad : vAdd (.d (.int (a : Nat))) (.d (.int 1)) st = some (.d (.int ((a + 1 : Nat) : Int)), st) := rfl
    simp! only [ssE_ok, m_size_of, ty, tw, toDs, s0, s1, s2, s3, e0, i0, a1, af, a2, a3, a4, bl, n1, sql, compL, noX_ok, R.bind, r, ni, sz, ad, fin_d st h]
    rfl
theorem c_size_n {w : Str} (hw : w = "holds" ∨ w = "may") (k : Nat) {d : D} (hd : d.plain = true) {o : Option Nat} (n : Nat) (st : Sto) (h : Okk st) (r : Fs (n + 1) i_size_of [.d (.int m), .d (.int f), .d d] st = .ok (.d (szO o)) st) : Fs (n + 2) i_size_of [.d (.int m), .d (.int f), .d (.tuple [.str w, .int k, d])] st = .ok (.d (szO (if k < m then o.map (· + 1) else none))) st := by
  have pl : PyData.plainAll [.str w, .int k, d] = true := by simp [PyData.plainAll, PyData.plain, hd]
  have e0 := vE0 pl st
  have ty : tyOf (.d (.tuple [.str w, .int k, d])) st = some "tuple" := rfl
  have tw : tyOf (.d (.str w)) st = some "str" := rfl
  have i0 : vIx (.d (.tuple [.str w, .int k, d])) (.d (.int 0)) st = some (.d (.str w), st) := rfl
  have i0' : vIx (.d (.list [.int k, d])) (.d (.int 0)) st = some (.d (.int k), st) := rfl
  have s0 : small 0 = true := rfl
  have s1 : small 1 = true := rfl
  have s2 : small 2 = true := rfl
  have bl : bLen [.d (.list [.int k, d])] st = some (.d (.int 2), st) := rfl
  have n2 : vNe (.d (.int 2)) (.d (.int 2)) st = some (.d (.bool false), st) := rfl
  have a1 := wEq w "fact" st
  rw [show (w == "fact") = false by rcases hw with rfl | rfl <;> decide +kernel] at a1
  have af := wEq w "after" st
  rw [show (w == "after") = false by rcases hw with rfl | rfl <;> decide +kernel] at af
  have a2 := in2 w "holds" "may" st
  rw [show (("holds" : Str) == w || ("may" : Str) == w) = true by rcases hw with rfl | rfl <;> decide +kernel] at a2
  have sql : ∀ (l : List D) (st : Sto), (R.ok (.d (.list l)) st).seqI = .ok l st := fun _ _ => rfl
  have sl : vSl (.d (.list [.int k, d])) (some 1) none st = some (.d (.list [d]), st) := rfl
  have wh := c_is_whole n (.int k) 0 ((m : Int) - 1) st h trivial
  have hi : isWhole (.int k) 0 ((m : Int) - 1) = decide (k < m) := by
    show (decide (0 ≤ (k : Int)) && decide ((k : Int) ≤ (m : Int) - 1)) = _
    rw [decide_eq_true (show (0 : Int) ≤ k by omega), Bool.true_and, decide_eq_decide]
    omega
  rw [hi] at wh
  rw [e_size_of]
  by_cases q : k < m
  · rw [if_pos q]
    rw [decide_eq_true q] at wh
    have ni := no_szO o st
    cases o with
    | none =>
      have ni : vIn (.d .none) (.d (.list [szO none])) st = some (.d (.bool true), st) := ni
      simp! only [ssE_ok, m_size_of, ty, tw, toDs, s0, s1, s2, e0, i0, i0', a1, af, a2, bl, n2, wh, sl, sql, compL, noX_ok, R.bind, r, ni, fin_d st h]
      rfl
    | some a =>
      have ni : vIn (.d .none) (.d (.list [szO (some a)])) st = some (.d (.bool false), st) := ni
      have sz : Fs (n + 1) i_sizes_of [.d (.list [szO (some a)])] st = .ok (.d (.tuple [.int a, .int 0])) st := c_sizes1 n a 0 st h
      have ad : vAdd (.d (.int (a : Nat))) (.d (.int 1)) st = some (.d (.int ((a + 1 : Nat) : Int)), st) := rfl
      simp! only [ssE_ok, m_size_of, ty, tw, toDs, s0, s1, s2, e0, i0, i0', a1, af, a2, bl, n2, wh, sl, sql, compL, noX_ok, R.bind, r, ni, sz, ad, fin_d st h]
      rfl
  · rw [if_neg q]
    rw [decide_eq_false q] at wh
    simp! only [ssE_ok, m_size_of, ty, tw, toDs, s0, s1, s2, e0, i0, i0', a1, af, a2, bl, n2, wh, fin_d st h]
    rfl
theorem c_size_2 {w : Str} (hw : w = "and" ∨ w = "or") {d e : D} (hd : d.plain = true) (he : e.plain = true) {o q : Option Nat} (n : Nat) (st : Sto) (h : Okk st) (r : Fs (n + 1) i_size_of [.d (.int m), .d (.int f), .d d] st = .ok (.d (szO o)) st) (r2 : Fs (n + 1) i_size_of [.d (.int m), .d (.int f), .d e] st = .ok (.d (szO q)) st) : Fs (n + 2) i_size_of [.d (.int m), .d (.int f), .d (.tuple [.str w, d, e])] st = .ok (.d (szO (match o, q with
    | some a, some b => some (max a b + 1)
    | _, _ => none))) st := by
  have pl : PyData.plainAll [.str w, d, e] = true := by simp [PyData.plainAll, PyData.plain, hd, he]
  have e0 := vE0 pl st
  have ty : tyOf (.d (.tuple [.str w, d, e])) st = some "tuple" := rfl
  have tw : tyOf (.d (.str w)) st = some "str" := rfl
  have i0 : vIx (.d (.tuple [.str w, d, e])) (.d (.int 0)) st = some (.d (.str w), st) := rfl
  have s0 : small 0 = true := rfl
  have s1 : small 1 = true := rfl
  have s2 : small 2 = true := rfl
  have bl : bLen [.d (.list [d, e])] st = some (.d (.int 2), st) := rfl
  have n2 : vNe (.d (.int 2)) (.d (.int 2)) st = some (.d (.bool false), st) := rfl
  have a1 := wEq w "fact" st
  rw [show (w == "fact") = false by rcases hw with rfl | rfl <;> decide +kernel] at a1
  have af := wEq w "after" st
  rw [show (w == "after") = false by rcases hw with rfl | rfl <;> decide +kernel] at af
  have a2 := in2 w "holds" "may" st
  rw [show (("holds" : Str) == w || ("may" : Str) == w) = false by rcases hw with rfl | rfl <;> decide +kernel] at a2
  have a3 := in2 w "and" "or" st
  rw [show (("and" : Str) == w || ("or" : Str) == w) = true by rcases hw with rfl | rfl <;> decide +kernel] at a3
  have sql : ∀ (l : List D) (st : Sto), (R.ok (.d (.list l)) st).seqI = .ok l st := fun _ _ => rfl
  have ni := no_szO2 o q st
  rw [e_size_of]
  match o, q with
  | none, q =>
    have ni : vIn (.d .none) (.d (.list [szO none, szO q])) st = some (.d (.bool true), st) := ni
    simp! only [ssE_ok, m_size_of, ty, tw, toDs, s0, s1, s2, e0, i0, a1, af, a2, a3, bl, n2, sql, compL, noX_ok, R.bind, r, r2, ni, fin_d st h]
    rfl
  | some a, none =>
    have ni : vIn (.d .none) (.d (.list [szO (some a), szO none])) st = some (.d (.bool true), st) := ni
    simp! only [ssE_ok, m_size_of, ty, tw, toDs, s0, s1, s2, e0, i0, a1, af, a2, a3, bl, n2, sql, compL, noX_ok, R.bind, r, r2, ni, fin_d st h]
    rfl
  | some a, some b =>
    have ni : vIn (.d .none) (.d (.list [szO (some a), szO (some b)])) st = some (.d (.bool false), st) := ni
    have sz : Fs (n + 1) i_sizes_of [.d (.list [szO (some a), szO (some b)])] st = .ok (.d (.tuple [.int (max a b : Nat), .int 0])) st := c_sizes2 n a 0 b 0 st h
    have ad : vAdd (.d (.int ((max a b : Nat) : Int))) (.d (.int 1)) st = some (.d (.int ((max a b + 1 : Nat) : Int)), st) := rfl
    simp! only [ssE_ok, m_size_of, ty, tw, toDs, s0, s1, s2, e0, i0, a1, af, a2, a3, bl, n2, sql, compL, noX_ok, R.bind, r, r2, ni, sz, ad, fin_d st h]
    rfl
theorem c_size_f (i : Nat) (n : Nat) (st : Sto) (h : Okk st) : Fs (n + 2) i_size_of [.d (.int m), .d (.int f), .d (.tuple [.str "fact", .int i])] st = .ok (.d (szO (if i < f then some 1 else none))) st := by
  have pl : PyData.plainAll [.str "fact", .int i] = true := rfl
  have e0 := vE0 pl st
  have ty : tyOf (.d (.tuple [.str "fact", .int i])) st = some "tuple" := rfl
  have tw : tyOf (.d (.str "fact")) st = some "str" := rfl
  have i0 : vIx (.d (.tuple [.str "fact", .int i])) (.d (.int 0)) st = some (.d (.str "fact"), st) := rfl
  have i1 : vIx (.d (.list [.int i])) (.d (.int 0)) st = some (.d (.int i), st) := rfl
  have s0 : small 0 = true := rfl
  have s2 : small 2 = true := rfl
  have bl : bLen [.d (.list [.int i])] st = some (.d (.int 1), st) := rfl
  have q1 : vEq (.d (.int 1)) (.d (.int 1)) st = some (.d (.bool true), st) := rfl
  have a1 : vEq (.d (.str "fact")) (.d (.str "fact")) st = some (.d (.bool true), st) := rfl
  have wh := c_is_whole n (.int i) 0 ((f : Int) - 1) st h trivial
  have hi : isWhole (.int i) 0 ((f : Int) - 1) = decide (i < f) := by
    show (decide (0 ≤ (i : Int)) && decide ((i : Int) ≤ (f : Int) - 1)) = _
    rw [decide_eq_true (show (0 : Int) ≤ i by omega), Bool.true_and, decide_eq_decide]
    omega
  rw [hi] at wh
  rw [e_size_of]
  by_cases q : i < f
  · rw [if_pos q]
    rw [decide_eq_true q] at wh
    simp! only [ssE_ok, m_size_of, ty, tw, toDs, s0, s2, e0, i0, i1, a1, bl, q1, wh, fin_d st h]
    rfl
  · rw [if_neg q]
    rw [decide_eq_false q] at wh
    simp! only [ssE_ok, m_size_of, ty, tw, toDs, s0, s2, e0, i0, i1, a1, bl, q1, wh, fin_d st h]
    rfl
theorem c_sizeT (st : Sto) (h : Okk st) : ∀ (t : LT), t.wf → ∀ n, Fs (n + t.deep + 1) i_size_of [.d (.int m), .d (.int f), .d t.d] st = .ok (.d (szO (t.sz m f))) st := by
  intro t
  induction t with
  | fact i => intro _ n; exact c_size_f m f i n st h
  | no p ih => intro hw n; exact c_size_1 m f (.inl rfl) (p.plain hw) (n + p.deep) st h (ih hw n)
  | all p ih => intro hw n; exact c_size_1 m f (.inr (.inl rfl)) (p.plain hw) (n + p.deep) st h (ih hw n)
  | com p ih => intro hw n; exact c_size_1 m f (.inr (.inr rfl)) (p.plain hw) (n + p.deep) st h (ih hw n)
  | holds k p ih => intro hw n; exact c_size_n m f (.inl rfl) k (p.plain hw) (n + p.deep) st h (ih hw n)
  | may k p ih => intro hw n; exact c_size_n m f (.inr rfl) k (p.plain hw) (n + p.deep) st h (ih hw n)
  | an p q ih ih2 =>
    intro hw n
    have a := ih hw.1 (n + (max p.deep q.deep - p.deep))
    have b := ih2 hw.2 (n + (max p.deep q.deep - q.deep))
    rw [show n + (max p.deep q.deep - p.deep) + p.deep + 1 = n + max p.deep q.deep + 1 by omega] at a
    rw [show n + (max p.deep q.deep - q.deep) + q.deep + 1 = n + max p.deep q.deep + 1 by omega] at b
    cases e1 : p.sz m f <;> cases e2 : q.sz m f <;> (rw [e1] at a; rw [e2] at b; have c := c_size_2 m f (.inl rfl) (p.plain hw.1) (q.plain hw.2) (n + max p.deep q.deep) st h a b; simp only [LT.sz, LT.d, e1, e2]; exact c)
  | or p q ih ih2 =>
    intro hw n
    have a := ih hw.1 (n + (max p.deep q.deep - p.deep))
    have b := ih2 hw.2 (n + (max p.deep q.deep - q.deep))
    rw [show n + (max p.deep q.deep - p.deep) + p.deep + 1 = n + max p.deep q.deep + 1 by omega] at a
    rw [show n + (max p.deep q.deep - q.deep) + q.deep + 1 = n + max p.deep q.deep + 1 by omega] at b
    cases e1 : p.sz m f <;> cases e2 : q.sz m f <;> (rw [e1] at a; rw [e2] at b; have c := c_size_2 m f (.inr rfl) (p.plain hw.1) (q.plain hw.2) (n + max p.deep q.deep) st h a b; simp only [LT.sz, LT.d, e1, e2]; exact c)
  | un w ds => intro hw n; exact c_size_un m f hw.1 hw.2.1 hw.2.2 n st h
end
def goodT (t : LT) : Bool := match t.sz 3 4 with
  | none => false
  | some a => decide (a ≤ 12)
theorem c_goodT (t : LT) (hw : t.wf) (n : Nat) (st : Sto) (h : Okk st) : Fs (n + t.deep + 2) i_good_saying [.d (.int 3), .d (.int 4), .d t.d] st = .ok (.d (.bool (goodT t))) st := by
  have r : Fs (n + t.deep + 1) i_size_of [.d (.int 3), .d (.int 4), .d t.d] st = .ok (.d (szO (t.sz 3 4))) st := c_sizeT 3 4 st h t hw n
  unfold goodT
  rw [show n + t.deep + 2 = (n + t.deep + 1) + 1 from rfl, e_good_saying]
  cases e : t.sz 3 4 with
  | none =>
    rw [e] at r
    have r : Fs (n + t.deep + 1) i_size_of [.d (.int 3), .d (.int 4), .d t.d] st = .ok (.d .none) st := r
    have nn : vNotN (.d .none) (.d .none) st = some (.d (.bool false), st) := rfl
    simp! only [ssE_ok, m_good_saying, r, nn, fin_d st h]
  | some a =>
    rw [e] at r
    have r : Fs (n + t.deep + 1) i_size_of [.d (.int 3), .d (.int 4), .d t.d] st = .ok (.d (szD a 0)) st := r
    have nn : vNotN (.d (szD a 0)) (.d .none) st = some (.d (.bool true), st) := rfl
    have i0 : vIx (.d (szD a 0)) (.d (.int 0)) st = some (.d (.int (a : Nat)), st) := rfl
    have i1 : vIx (.d (szD a 0)) (.d (.int 1)) st = some (.d (.int ((0 : Nat) : Int)), st) := rfl
    have d3 : decide (((0 : Nat) : Int) ≤ 3) = true := by decide
    have da : decide ((a : Int) ≤ 12) = decide (a ≤ 12) := by rw [decide_eq_decide]; omega
    cases q : decide (a ≤ 12) with
    | true =>
      rw [q] at da
      simp! only [ssE_ok, m_good_saying, r, nn, i0, i1, d3, da, q, fin_d st h]
    | false =>
      rw [q] at da
      simp! only [ssE_ok, m_good_saying, r, nn, i0, i1, d3, da, q, fin_d st h]
end Lw
end

section
set_option maxRecDepth 100000
set_option maxHeartbeats 4000000
namespace Lw
open PySem PySem.Spec L2 Mi
theorem okk_app (S : Sto) (h : Okk S) (T : Sto) (hT : noIns T = true) : Okk (S ++ T) := by
  have t : ∀ (k : Nat) (T : Sto), noIns T = true → insOk k T = true := by
    intro k T
    induction T with
    | nil => intro _; rfl
    | cons o r ih =>
      intro q
      cases o with
      | ins c fs => simp [noIns] at q
      | lst _ => exact ih (by simpa [noIns] using q)
      | dK _ => exact ih (by simpa [noIns] using q)
      | dN _ => exact ih (by simpa [noIns] using q)
      | dL _ => exact ih (by simpa [noIns] using q)
      | gone => exact ih (by simpa [noIns] using q)
  have : ∀ (k : Nat) (S : Sto), insOk k S = true → insOk k (S ++ T) = true := by
    intro k S
    induction S with
    | nil => intro _; exact t k T hT
    | cons o r ihh =>
      intro q
      cases o with
      | ins c fs => simp only [List.cons_append, insOk, Bool.and_eq_true] at q ⊢; exact ⟨q.1, ihh q.2⟩
      | lst _ => exact ihh q
      | dK _ => exact ihh q
      | dN _ => exact ihh q
      | dL _ => exact ihh q
      | gone => exact ihh q
  exact this _ S (insOk_mono (by simp) h)
end Lw
end

section
set_option maxRecDepth 100000
set_option maxHeartbeats 4000000
namespace Lw
open PySem PySem.Spec L2 Mi
abbrev bd_part_of_0 (F : Nat → FN) : ES := (sSeq (sSet 8 (eCl 3 (F 13) (aCons (eVar 0) (aCons (eVar 1) (aCons (eOp (pur2 (dI iSub)) (eVar 2) (eC (.int 1))) aNil))))) (sSeq (sIf (eTst (eOp vIsN (eVar 8) (eC .none))) (sRet (eC .none)) sNx) (sSeq (sExpr (eAppend (eVar 4) (eOp vIx (eVar 8) (eC (.int 0))))) (sSet 1 (eOp vIx (eVar 8) (eC (.int 1)))))))
/-! ### part_of -/
def ansP (W : List Str) : Option (D × List Str) → D
  | none => .none
  | some (t, r) => .tuple [t, .int ((W.length - r.length : Nat) : Int)]
abbrev wL (W : List Str) : D := .list (W.map PyData.str)
theorem w_len (W : List Str) (st : Sto) : bLen [.d (wL W)] st = some (.d (.int (W.length : Nat)), st) := by simp only [bLen, lenOf, sqOf, lsOf, Option.map_some, List.length_map]
theorem w_ix {W r : List Str} {w : Str} (h : (w :: r) <:+ W) (st : Sto) : vIx (.d (wL W)) (.d (.int ((W.length - (r.length + 1) : Nat) : Int))) st = some (.d (.str w), st) := by
  obtain ⟨p, hp⟩ := h
  have e : W[W.length - (r.length + 1)]? = some w := by
    rw [← hp]
    simp
  have q : atI (W.map PyData.str) ((W.length - (r.length + 1) : Nat) : Int) = some (.str w) := atI_nat (by rw [List.getElem?_map, e]; rfl)
  simp only [vIx, sqOf, lsOf]
  exact congrArg (Option.map fun v => (Val.d v, st)) q
/-- one turn of the loop -/
theorem po_loop (W : List Str) (k n : Nat) (S : Sto) (ok : Okk S)
    (ih : ∀ (r : List Str), r <:+ W → ∀ st, Okk st → Fs n i_part_of [.d (wL W), .d (.int ((W.length - r.length : Nat) : Int)), .d (.int (k : Nat))] st = .ok (.d (ansP W (PP k r))) st) :
    ∀ (l : List D) (r : List Str), r <:+ W → ∀ (md : List D) (a3 a5 a6 a7 a8 : Option Val), md.length + l.length ≤ 900000 →
    match manyG (PP k) l.length r with
    | none => ∃ md', forL (.nm 7) (bd_part_of_0 (Fs n)) l [some (.d (wL W)), some (.d (.int ((W.length - r.length : Nat) : Int))), some (.d (.int ((k + 1 : Nat) : Int))), a3, some (.r S.length), a5, a6, a7, a8] (S ++ [.lst md]) = .ok (.rt (.d .none)) (S ++ [.lst md'])
    | some (ts, r') => ∃ b7 b8, forL (.nm 7) (bd_part_of_0 (Fs n)) l [some (.d (wL W)), some (.d (.int ((W.length - r.length : Nat) : Int))), some (.d (.int ((k + 1 : Nat) : Int))), a3, some (.r S.length), a5, a6, a7, a8] (S ++ [.lst md]) = .ok (.nx [some (.d (wL W)), some (.d (.int ((W.length - r'.length : Nat) : Int))), some (.d (.int ((k + 1 : Nat) : Int))), a3, some (.r S.length), a5, a6, b7, b8]) (S ++ [.lst (md ++ ts)]) := by
  intro l
  induction l with
  | nil =>
    intro r hr md a3 a5 a6 a7 a8 hl
    simp only [List.length_nil, manyG]
    exact ⟨a7, a8, by rw [List.append_nil]; rfl⟩
  | cons x l ihl =>
    intro r hr md a3 a5 a6 a7 a8 hl
    have okS : ∀ m, Okk (S ++ [MO.lst m]) := fun m => okk_app S ok _ rfl
    have c := ih r hr (S ++ [.lst md]) (okS md)
    have k1 : (((k + 1 : Nat) : Int) - 1) = (k : Nat) := by omega
    simp only [List.length_cons, manyG]
    have g : (S ++ [MO.lst md])[S.length]? = some (.lst md) := by simp
    cases e : PP k r with
    | none =>
      rw [e] at c
      have c : Fs n i_part_of [.d (wL W), .d (.int ((W.length - r.length : Nat) : Int)), .d (.int (k : Nat))] (S ++ [.lst md]) = .ok (.d .none) (S ++ [.lst md]) := c
      have ni : ∀ st : Sto, vIsN (.d .none) (.d .none) st = some (.d (.bool true), st) := fun _ => rfl
      refine ⟨md, ?_⟩
      simp! only [ssE_ok, forL, bd_part_of_0, k1, c, ni]
    | some p =>
      obtain ⟨t, r1⟩ := p
      have hs : r1 <:+ W := (PG_suf _ _ _ _ e).trans hr
      rw [e] at c
      have c : Fs n i_part_of [.d (wL W), .d (.int ((W.length - r.length : Nat) : Int)), .d (.int (k : Nat))] (S ++ [.lst md]) = .ok (.d (.tuple [t, .int ((W.length - r1.length : Nat) : Int)])) (S ++ [.lst md]) := c
      have ni : ∀ st : Sto, vIsN (.d (.tuple [t, .int ((W.length - r1.length : Nat) : Int)])) (.d .none) st = some (.d (.bool false), st) := fun _ => rfl
      have i0 : ∀ st : Sto, vIx (.d (.tuple [t, .int ((W.length - r1.length : Nat) : Int)])) (.d (.int 0)) st = some (.d t, st) := fun _ => rfl
      have i1 : ∀ st : Sto, vIx (.d (.tuple [t, .int ((W.length - r1.length : Nat) : Int)])) (.d (.int 1)) st = some (.d (.int ((W.length - r1.length : Nat) : Int)), st) := fun _ => rfl
      have st1 : (S ++ [MO.lst md]).set S.length (.lst (md ++ [t])) = S ++ [.lst (md ++ [t])] := by simp
      have sm : md.length < 1000000 := by simp at hl; omega
      have R := ihl r1 hs (md ++ [t]) a3 a5 a6 (some (.d x)) (some (.d (.tuple [t, .int ((W.length - r1.length : Nat) : Int)]))) (by simp at hl ⊢; omega)
      cases e2 : manyG (PP k) l.length r1 with
      | none =>
        simp only [e2] at R ⊢
        obtain ⟨md', R⟩ := R
        refine ⟨md', ?_⟩
        simp! only [ssE_ok, forL, bd_part_of_0, k1, c, ni, i0, i1, g, st1, sm] at R ⊢
        exact R
      | some q =>
        obtain ⟨ts, r2⟩ := q
        simp only [e2] at R ⊢
        obtain ⟨b7, b8, R⟩ := R
        refine ⟨b7, b8, ?_⟩
        simp! only [ssE_ok, forL, bd_part_of_0, k1, c, ni, i0, i1, g, st1, sm] at R ⊢
        rw [R]
        simp only [List.append_assoc, List.singleton_append]
end Lw
end

section
set_option maxRecDepth 100000
set_option maxHeartbeats 4000000
namespace Lw
open PySem PySem.Spec L2 Mi
def hdP (F : Nat → FN) : ES := (sSeq (sSet 6 (eLitGet gP (eVar 3)))
    (sSeq (sIf (eTst (eOp vIsN (eVar 6) (eC .none))) (sRet (eC .none)) sNx)
    (sSeq (sFor (.nm 7) (iRange (aCons (eVar 6) aNil)) (bd_part_of_0 F))
    (sRet (eTup (aCons (eCB bTuple (aCons (eVar 4) aNil)) (aCons (eVar 1) aNil)))))))
theorem part_eq (F : Nat → FN) : m_part_of F = (sSeq (sIf (kOr (eTst (eOp (pur2 (dI iGe)) (eVar 1) (eCB bLen (aCons (eVar 0) aNil)))) (eTst (eOp vEq (eVar 2) (eC (.int 0))))) (sRet (eC .none)) sNx)
    (sSeq (sParN [3, 4] (aCons (eOp vIx (eVar 0) (eVar 1)) (aCons (eLstR (aCons (eOp vIx (eVar 0) (eVar 1)) aNil)) aNil)))
    (sSeq (sSet 1 (eOp vAdd (eVar 1) (eC (.int 1))))
    (sSeq (sIf (eTst (eOp vIn (eVar 3) (eTup (aCons (eC (.str "fact")) (aCons (eC (.str "holds")) (aCons (eC (.str "may")) aNil)))))) (sSeq (sSet 5 (eIf (eTst (eOp (pur2 (dI iLt)) (eVar 1) (eCB bLen (aCons (eVar 0) aNil)))) (eCl 1 (F 12) (aCons (eOp vIx (eVar 0) (eVar 1)) aNil)) (eC .none)))
    (sSeq (sIf (eTst (eOp vIsN (eVar 5) (eC .none))) (sRet (eC .none)) sNx)
    (sSeq (sExpr (eAppend (eVar 4) (eVar 5)))
    (sSet 1 (eOp vAdd (eVar 1) (eC (.int 1))))))) sNx)
    (hdP F))))) := rfl
theorem tup_r (S : Sto) (xs : List D) : bTuple [.r S.length] (S ++ [.lst xs]) = some (.d (.tuple xs), S ++ [.lst xs]) := by
  have g : (S ++ [MO.lst xs])[S.length]? = some (.lst xs) := by simp
  simp only [bTuple, sqOf, lsOf, g, Option.map_some]
theorem po_tail (W : List Str) (k n : Nat) (S : Sto) (ok : Okk S)
    (ih : ∀ (r : List Str), r <:+ W → ∀ st, Okk st → Fs n i_part_of [.d (wL W), .d (.int ((W.length - r.length : Nat) : Int)), .d (.int (k : Nat))] st = .ok (.d (ansP W (PP k r))) st)
    (w : Str) (md : List D) (hm : md.length ≤ 100) (r : List Str) (hr : r <:+ W) (a5 : Option Val) :
    (hdP (Fs n) [some (.d (wL W)), some (.d (.int ((W.length - r.length : Nat) : Int))), some (.d (.int ((k + 1 : Nat) : Int))), some (.d (.str w)), some (.r S.length), a5, none, none, none] (S ++ [.lst md])).fin0 S.length = .ok (.d (ansP W (stepG kw (PP k) w md r))) S := by
  have g := get_P (ea := eVar 3) (env := [some (.d (wL W)), some (.d (.int ((W.length - r.length : Nat) : Int))), some (.d (.int ((k + 1 : Nat) : Int))), some (.d (.str w)), some (.r S.length), a5, none, none, none]) (st := S ++ [.lst md]) (s := S ++ [.lst md]) (w := w) rfl
  have fa : ∀ (x : D) (md : List D), fin S.length (.d x) (S ++ [.lst md]) = .ok (.d x) S := fun x md => fin_app S [.lst md] ok x
  have s2 : small 2 = true := rfl
  unfold stepG
  cases e : kw w with
  | none =>
    rw [e] at g
    have ni : ∀ st : Sto, vIsN (.d (oD none)) (.d .none) st = some (.d (.bool true), st) := fun _ => rfl
    simp! only [ssE_ok, hdP, g, ni, fa]
    rfl
  | some m =>
    rw [e] at g
    have m2 : m ≤ 2 := by
      rcases kw_cases e with ⟨_, q⟩ | ⟨_, q⟩ | ⟨_, q⟩ | ⟨_, q⟩ | ⟨_, q⟩ | ⟨_, q⟩ | ⟨_, q⟩ | ⟨_, q⟩ <;> omega
    have ni : ∀ st : Sto, vIsN (.d (oD (some m))) (.d .none) st = some (.d (.bool false), st) := fun _ => rfl
    have om : oD (some m) = .int (m : Nat) := rfl
    have rm : (-(2 ^ 62) ≤ ((m : Nat) : Int) ∧ ((m : Nat) : Int) ≤ 1000000) := by omega
    have L := po_loop W k n S ok ih ((List.range m).map fun j : Nat => PyData.int (0 + (j : Nat))) r hr md (some (.d (.str w))) a5 (some (.d (.int (m : Nat)))) none none (by simp; omega)
    rw [List.length_map, List.length_range] at L
    cases e2 : manyG (PP k) m r with
    | none =>
      simp only [e2] at L ⊢
      obtain ⟨md', L⟩ := L
      simp! only [ssE_ok, hdP, g, ni]
      simp! only [ssE_ok, om, rm, and_self, Int.toNat_natCast]
      rw [L]
      simp! only [ssE_ok, fa]
      rfl
    | some q =>
      obtain ⟨ts, r2⟩ := q
      simp only [e2] at L ⊢
      obtain ⟨b7, b8, L⟩ := L
      have bt := tup_r S (md ++ ts)
      simp! only [ssE_ok, hdP, g, ni]
      simp! only [ssE_ok, om, rm, and_self, Int.toNat_natCast]
      rw [L]
      simp! only [ssE_ok, bt, toDs, s2, fa]
      rfl
theorem c_part (W : List Str) (hW : W.length ≤ 900000) (hl : ∀ w ∈ W, w.length ≤ 900000) : ∀ (k n : Nat) (r : List Str), r <:+ W → ∀ st, Okk st → Fs (n + k + 2) i_part_of [.d (wL W), .d (.int ((W.length - r.length : Nat) : Int)), .d (.int (k : Nat))] st = .ok (.d (ansP W (PP k r))) st := by
  have wl := fun st => w_len W st
  intro k
  induction k with
  | zero =>
    intro n r hr st ok
    have eq : vEq (.d (.int ((0 : Nat) : Int))) (.d (.int 0)) st = some (.d (.bool true), st) := rfl
    have e : PP 0 r = none := by simp only [PG]
    rw [e, e_part_of]
    unfold m_part_of
    by_cases q : ((W.length - r.length : Nat) : Int) ≥ (W.length : Nat)
    · have d : decide (((W.length - r.length : Nat) : Int) ≥ (W.length : Nat)) = true := decide_eq_true q
      simp! only [ssE_ok, wl, d, fin_d st ok]
      rfl
    · have d : decide (((W.length - r.length : Nat) : Int) ≥ (W.length : Nat)) = false := decide_eq_false q
      simp! only [ssE_ok, wl, d, eq, fin_d st ok]
      rfl
  | succ k ih =>
    intro n r hr st ok
    rw [show n + (k + 1) + 2 = (n + k + 2) + 1 by omega, e_part_of, part_eq]
    have hle := hr.length_le
    cases r with
    | nil =>
      have d : decide (((W.length - ([] : List Str).length : Nat) : Int) ≥ (W.length : Nat)) = true := decide_eq_true (by simp)
      have e : PP (k + 1) [] = none := by simp only [PG]
      rw [e]
      simp! only [ssE_ok, wl]
      simp only [List.length_nil] at d
      simp! only [ssE_ok, d, fin_d st ok]
      rfl
    | cons w r1 =>
      rw [List.length_cons] at hle
      have hr1 : r1 <:+ W := (List.suffix_cons w r1).trans hr
      have ix := fun st => w_ix hr st
      have d : decide (((W.length - (r1.length + 1) : Nat) : Int) ≥ (W.length : Nat)) = false := decide_eq_false (by omega)
      have dz : vEq (.d (.int ((k + 1 : Nat) : Int))) (.d (.int 0)) st = some (.d (.bool false), st) := by
        have : decide (((k + 1 : Nat) : Int) = 0) = false := decide_eq_false (by omega)
        have ev : PyData.eqv (.int ((k + 1 : Nat) : Int)) (.int 0) = decide (((k + 1 : Nat) : Int) = 0) := rfl
        simp only [vEq, datOf, fits_int, if_true, ev, this]
      have a1 : ∀ st : Sto, vAdd (.d (.int ((W.length - (r1.length + 1) : Nat) : Int))) (.d (.int 1)) st = some (.d (.int ((W.length - r1.length : Nat) : Int)), st) := fun st => by
        have : ((W.length - (r1.length + 1) : Nat) : Int) + 1 = ((W.length - r1.length : Nat) : Int) := by omega
        show some (Val.d (.int (((W.length - (r1.length + 1) : Nat) : Int) + 1)), st) = _
        rw [this]
      have s1 : small 1 = true := rfl
      have s3 : small 3 = true := rfl
      have okS : ∀ m, Okk (st ++ [MO.lst m]) := fun m => okk_app st ok _ rfl
      have fa : ∀ (x : D) (md : List D), fin st.length (.d x) (st ++ [.lst md]) = .ok (.d x) st := fun x md => fin_app st [.lst md] ok x
      have ih' := ih n
      have ni := nm_in w (st ++ [.lst [.str w]])
      have e : PP (k + 1) (w :: r1) = if nm w = true then (match r1 with
        | [] => none
        | v :: r => match nP v with
          | none => none
          | some i => stepG kw (PP k) w [.str w, .int (i : Nat)] r) else stepG kw (PP k) w [.str w] r1 := by
        cases r1 with
        | nil => simp only [PG]
        | cons v r => simp only [PG]; try rfl
      rw [e]
      by_cases q : nm w = true
      · rw [if_pos q]
        rw [q] at ni
        cases r1 with
        | nil =>
          have lt : decide (((W.length - 0 : Nat) : Int) < (W.length : Nat)) = false := decide_eq_false (by omega)
          have nn : ∀ st : Sto, vIsN (.d .none) (.d .none) st = some (.d (.bool true), st) := fun _ => rfl
          simp! only [ssE_ok, wl, List.length_nil] at d a1 ix ⊢
          simp! only [ssE_ok, wl, List.length_nil, d, dz, ix, setVs, toDs, s1, s3, a1, ni, lt, nn, fa]
          rfl
        | cons v r2 =>
          have hr2 : r2 <:+ W := (List.suffix_cons v r2).trans hr1
          have hle1 := hr1.length_le
          rw [List.length_cons] at hle1
          have lt : decide (((W.length - (r2.length + 1) : Nat) : Int) < (W.length : Nat)) = true := decide_eq_true (by omega)
          have ix1 := fun st => w_ix hr1 st
          have vm : v ∈ W := hr1.subset List.mem_cons_self
          have cn := fun st h => c_number_in (n + k + 1) v (hl v vm) st h
          have cn1 := cn (st ++ [.lst [.str w]]) (okS _)
          simp only [List.length_cons] at d a1 ix
          cases en : nP v with
          | none =>
            rw [en] at cn1
            simp only [en]
            have nn : ∀ st : Sto, vIsN (.d (oD none)) (.d .none) st = some (.d (.bool true), st) := fun _ => rfl
            simp! only [ssE_ok, wl, d, dz, ix, setVs, toDs, s1, s3, a1, ni, lt, ix1, cn1, nn, fa]
            rfl
          | some i =>
            rw [en] at cn1
            simp only [en]
            have nn : ∀ st : Sto, vIsN (.d (oD (some i))) (.d .none) st = some (.d (.bool false), st) := fun _ => rfl
            have g : (st ++ [MO.lst [.str w]])[st.length]? = some (.lst [.str w]) := by simp
            have sx : (st ++ [MO.lst [.str w]]).set st.length (.lst [.str w, .int (i : Nat)]) = st ++ [.lst [.str w, .int (i : Nat)]] := by simp
            have sm : (0 + 1 < 1000000) = True := eq_true (by decide)
            have sm1 : (1 < 1000000) = True := eq_true (by decide)
            have a2 : ∀ st : Sto, vAdd (.d (.int ((W.length - (r2.length + 1) : Nat) : Int))) (.d (.int 1)) st = some (.d (.int ((W.length - r2.length : Nat) : Int)), st) := fun st => by
              have : ((W.length - (r2.length + 1) : Nat) : Int) + 1 = ((W.length - r2.length : Nat) : Int) := by omega
              show some (Val.d (.int (((W.length - (r2.length + 1) : Nat) : Int) + 1)), st) = _
              rw [this]
            have T := po_tail W k (n + k + 2) st ok ih' w [.str w, .int (i : Nat)] (by show 2 ≤ 100; decide) r2 hr2 (some (.d (.int (i : Nat))))
            have oi : oD (some i) = .int (i : Nat) := rfl
            have nn : ∀ st : Sto, vIsN (.d (.int (i : Nat))) (.d .none) st = some (.d (.bool false), st) := fun _ => rfl
            rw [oi] at cn1
            have ap : [PyData.str w] ++ [.int (i : Nat)] = [.str w, .int (i : Nat)] := rfl
            simp! only [ssE_ok, wl, d, dz, ix, setVs, toDs, s1, s3, a1, ni, lt, ix1, cn1, nn, g, sm, sm1, ap, sx, a2]
            exact T
      · have q : nm w = false := by simpa using q
        rw [q] at ni
        rw [q, if_neg (by decide)]
        have T := po_tail W k (n + k + 2) st ok ih' w [.str w] (by show 1 ≤ 100; decide) r1 hr1 none
        simp! only [ssE_ok, wl, List.length_cons, d, dz, ix, setVs, toDs, s1, s3, a1, ni]
        exact T
end Lw
end

section
set_option maxRecDepth 100000
set_option maxHeartbeats 4000000
namespace Lw
open PySem PySem.Spec L2 Mi
abbrev bd__law_parse_0 (F : Nat → FN) : ES := (sSeq (sSet 5 (eCl 1 (F 23) (aCons (eVar 2) aNil))) (sSeq (sIf (eTst (eOp vIsN (eVar 5) (eC .none))) (sRet (eC .none)) sNx) (sSeq (sExpr (eAppend (eVar 1) (eOp vIx (eVar 5) (eC (.int 0))))) (sSet 2 (eOp vIx (eVar 5) (eC (.int 1)))))))
/-! ### _law_parse -/
def ansL : Option (D × List Str) → D
  | none => .none
  | some (t, r) => .tuple [t, wL r]
theorem pl_wL : ∀ ws : List Str, PyData.plainAll (ws.map PyData.str) = true
  | [] => rfl
  | w :: ws => by simp only [List.map_cons, PyData.plainAll, PyData.plain, pl_wL ws, Bool.and_self]
theorem ve_wL (ws : List Str) (st : Sto) : vEq (.d (wL ws)) (.d (.list [])) st = some (.d (.bool (decide (ws = []))), st) := by
  have f : fits (wL ws) (.list []) = true := by
    unfold fits
    have h2 : (PyData.list []).depth = 1 := rfl
    have h3 : (PyData.list []).plain = true := rfl
    have h1 : (wL ws).plain = true := by simpa only [PyData.plain] using pl_wL ws
    rw [h1, h2, h3, Bool.and_self, Bool.true_and, decide_eq_true_eq]
    omega
  have e : PyData.eqv (wL ws) (.list []) = decide (ws = []) := by
    cases ws with
    | nil => rfl
    | cons w ws => rfl
  simp only [vEq, datOf, f, if_true, e]
theorem ix_wL (w : Str) (ws : List Str) (st : Sto) : vIx (.d (wL (w :: ws))) (.d (.int 0)) st = some (.d (.str w), st) := by
  have q : atI ((w :: ws).map PyData.str) ((0 : Nat) : Int) = some (.str w) := atI_nat rfl
  simp only [vIx, sqOf, lsOf]
  exact congrArg (Option.map fun v => (Val.d v, st)) q
theorem cut_tl {α : Type} (a : α) (b : List α) : cut (a :: b) (some 1) none = b := by
  unfold cut
  simp [HT.sIx]
theorem sl_wL (w : Str) (ws : List Str) (st : Sto) : vSl (.d (wL (w :: ws))) (some 1) none st = some (.d (wL ws), st) := by
  have q : cut ((w :: ws).map PyData.str) (some 1) none = ws.map PyData.str := cut_tl _ _
  simp only [vSl, lsOf, q]
theorem nQ_in (w : Str) (st : Sto) : vNin (.d (.str w)) (.d (.list [.str "0", .str "1", .str "2", .str "3"])) st = some (.d (.bool (nQ w).isNone), st) := by
  have f : fitsIn [.str "0", .str "1", .str "2", .str "3"] (.str w) = true := rfl
  have e : (!([PyData.str "0", .str "1", .str "2", .str "3"].any fun y => PyData.eqv y (.str w))) = (nQ w).isNone := by
    simp only [List.any_cons, List.any_nil, Bool.or_false]
    show (!(("0" : Str) == w || (("1" : Str) == w || (("2" : Str) == w || ("3" : Str) == w)))) = _
    unfold nQ
    by_cases h0 : w = "0"
    · rw [if_pos h0, h0]; decide +kernel
    rw [if_neg h0, beq_ne (a := ("0" : Str)) (b := w) h0]
    by_cases h1 : w = "1"
    · rw [if_pos h1, h1]; decide +kernel
    rw [if_neg h1, beq_ne (a := ("1" : Str)) (b := w) h1]
    by_cases h2 : w = "2"
    · rw [if_pos h2, h2]; decide +kernel
    rw [if_neg h2, beq_ne (a := ("2" : Str)) (b := w) h2]
    by_cases h3 : w = "3"
    · rw [if_pos h3, h3]; decide +kernel
    rw [if_neg h3, beq_ne (a := ("3" : Str)) (b := w) h3]
    rfl
  simp only [vNin, datOf, sqOf, lsOf, f, if_true, e]
theorem nQ_int {w : Str} {i : Nat} (h : nQ w = some i) (st : Sto) : bIntS [.d (.str w)] st = some (.d (.int (i : Nat)), st) := by
  have e : intText? w = some (i : Int) ∧ w.length ≤ 640 := by
    unfold nQ at h
    split at h
    · rename_i e; cases h; rw [e]; decide +kernel
    split at h
    · rename_i e; cases h; rw [e]; decide +kernel
    split at h
    · rename_i e; cases h; rw [e]; decide +kernel
    split at h
    · rename_i e; cases h; rw [e]; decide +kernel
    · cases h
  have h4 := e.2
  simp only [bIntS, e.1]
  rw [if_pos h4]
theorem lp_loop (k n : Nat) (S : Sto) (ok : Okk S)
    (ih : ∀ (r : List Str), r.length ≤ k → ∀ st, Okk st → Fs n i__law_parse [.d (wL r)] st = .ok (.d (ansL (PL k r))) st) :
    ∀ (l : List D) (r : List Str), r.length ≤ k → ∀ (md : List D) (a0 a3 a4 a5 : Option Val), md.length + l.length ≤ 900000 →
    match manyG (PL k) l.length r with
    | none => ∃ md', forL (.nm 4) (bd__law_parse_0 (Fs n)) l [a0, some (.r S.length), some (.d (wL r)), a3, a4, a5] (S ++ [.lst md]) = .ok (.rt (.d .none)) (S ++ [.lst md'])
    | some (ts, r') => ∃ b4 b5, forL (.nm 4) (bd__law_parse_0 (Fs n)) l [a0, some (.r S.length), some (.d (wL r)), a3, a4, a5] (S ++ [.lst md]) = .ok (.nx [a0, some (.r S.length), some (.d (wL r')), a3, b4, b5]) (S ++ [.lst (md ++ ts)]) := by
  intro l
  induction l with
  | nil =>
    intro r hr md a0 a3 a4 a5 hl
    simp only [List.length_nil, manyG]
    exact ⟨a4, a5, by rw [List.append_nil]; rfl⟩
  | cons x l ihl =>
    intro r hr md a0 a3 a4 a5 hl
    have okS : ∀ m, Okk (S ++ [MO.lst m]) := fun m => okk_app S ok _ rfl
    have c := ih r hr (S ++ [.lst md]) (okS md)
    simp only [List.length_cons, manyG]
    have g : (S ++ [MO.lst md])[S.length]? = some (.lst md) := by simp
    cases e : PL k r with
    | none =>
      rw [e] at c
      have c : Fs n i__law_parse [.d (wL r)] (S ++ [.lst md]) = .ok (.d .none) (S ++ [.lst md]) := c
      have ni : ∀ st : Sto, vIsN (.d .none) (.d .none) st = some (.d (.bool true), st) := fun _ => rfl
      refine ⟨md, ?_⟩
      simp! only [ssE_ok, forL, bd__law_parse_0, c, ni]
    | some p =>
      obtain ⟨t, r1⟩ := p
      have hs : r1.length ≤ k := Nat.le_trans (PG_suf _ _ _ _ e).length_le hr
      rw [e] at c
      have c : Fs n i__law_parse [.d (wL r)] (S ++ [.lst md]) = .ok (.d (.tuple [t, wL r1])) (S ++ [.lst md]) := c
      have ni : ∀ st : Sto, vIsN (.d (.tuple [t, wL r1])) (.d .none) st = some (.d (.bool false), st) := fun _ => rfl
      have i0 : ∀ st : Sto, vIx (.d (.tuple [t, wL r1])) (.d (.int 0)) st = some (.d t, st) := fun _ => rfl
      have i1 : ∀ st : Sto, vIx (.d (.tuple [t, wL r1])) (.d (.int 1)) st = some (.d (wL r1), st) := fun _ => rfl
      have st1 : (S ++ [MO.lst md]).set S.length (.lst (md ++ [t])) = S ++ [.lst (md ++ [t])] := by simp
      have sm : md.length < 1000000 := by simp at hl; omega
      have R := ihl r1 hs (md ++ [t]) a0 a3 (some (.d x)) (some (.d (.tuple [t, wL r1]))) (by simp at hl ⊢; omega)
      cases e2 : manyG (PL k) l.length r1 with
      | none =>
        simp only [e2] at R ⊢
        obtain ⟨md', R⟩ := R
        refine ⟨md', ?_⟩
        simp! only [ssE_ok, forL, bd__law_parse_0, c, ni, i0, i1, g, st1, sm] at R ⊢
        exact R
      | some q =>
        obtain ⟨ts, r2⟩ := q
        simp only [e2] at R ⊢
        obtain ⟨b4, b5, R⟩ := R
        refine ⟨b4, b5, ?_⟩
        simp! only [ssE_ok, forL, bd__law_parse_0, c, ni, i0, i1, g, st1, sm] at R ⊢
        rw [R]
        simp only [List.append_assoc, List.singleton_append]
def hdL (F : Nat → FN) : ES := (sSeq (sSet 3 (eLitGet2 gL (eOp vIx (eVar 0) (eC (.int 0))) 9))
    (sSeq (sFor (.nm 4) (iRange (aCons (eVar 3) aNil)) (bd__law_parse_0 F))
    (sRet (eTup (aCons (eCB bTuple (aCons (eVar 1) aNil)) (aCons (eVar 2) aNil))))))
theorem lpar_eq (F : Nat → FN) : m__law_parse F = (sSeq (sIf (eTst (eOp vEq (eVar 0) (eLst aNil))) (sRet (eC .none)) sNx)
    (sSeq (sParN [1, 2] (aCons (eLstR (aCons (eOp vIx (eVar 0) (eC (.int 0))) aNil)) (aCons (eSl (eVar 0) (oSome (eC (.int 1))) oNone) aNil)))
    (sSeq (sIf (eTst (eOp vIn (eOp vIx (eVar 0) (eC (.int 0))) (eTup (aCons (eC (.str "fact")) (aCons (eC (.str "holds")) (aCons (eC (.str "may")) aNil)))))) (sSeq (sIf (kOr (eTst (eOp vEq (eVar 2) (eLst aNil))) (eTst (eOp vNin (eOp vIx (eVar 2) (eC (.int 0))) (eLst (aCons (eC (.str "0")) (aCons (eC (.str "1")) (aCons (eC (.str "2")) (aCons (eC (.str "3")) aNil)))))))) (sRet (eC .none)) sNx)
    (sSeq (sExpr (eAppend (eVar 1) (eCB bIntS (aCons (eOp vIx (eVar 2) (eC (.int 0))) aNil))))
    (sSet 2 (eSl (eVar 2) (oSome (eC (.int 1))) oNone)))) sNx)
    (hdL F)))) := rfl
theorem lp_tail (k n : Nat) (S : Sto) (ok : Okk S)
    (ih : ∀ (r : List Str), r.length ≤ k → ∀ st, Okk st → Fs n i__law_parse [.d (wL r)] st = .ok (.d (ansL (PL k r))) st)
    (w : Str) (ws : List Str) (md : List D) (hm : md.length ≤ 100) (r : List Str) (hr : r.length ≤ k) :
    (hdL (Fs n) [some (.d (wL (w :: ws))), some (.r S.length), some (.d (wL r)), none, none, none] (S ++ [.lst md])).fin0 S.length = .ok (.d (ansL (stepG arL (PL k) w md r))) S := by
  have ix := fun st => ix_wL w ws st
  have g := get_L (ea := eOp vIx (eVar 0) (eC (.int 0))) (env := [some (.d (wL (w :: ws))), some (.r S.length), some (.d (wL r)), none, none, none]) (st := S ++ [.lst md]) (s := S ++ [.lst md]) (w := w) (by simp! only [ssE_ok, ix])
  have fa : ∀ (x : D) (md : List D), fin S.length (.d x) (S ++ [.lst md]) = .ok (.d x) S := fun x md => fin_app S [.lst md] ok x
  have s2 : small 2 = true := rfl
  obtain ⟨m, hm2⟩ : ∃ m, m = (kw w).getD 9 := ⟨_, rfl⟩
  have m9 : m ≤ 9 := by
    rw [hm2]
    cases e : kw w with
    | none => exact Nat.le_refl _
    | some j =>
      show j ≤ 9
      rcases kw_cases e with ⟨_, q⟩ | ⟨_, q⟩ | ⟨_, q⟩ | ⟨_, q⟩ | ⟨_, q⟩ | ⟨_, q⟩ | ⟨_, q⟩ | ⟨_, q⟩ <;> omega
  rw [← hm2] at g
  have ea : arL w = some m := by unfold arL; rw [hm2]
  unfold stepG
  simp only [ea]
  have rm : (-(2 ^ 62) ≤ ((m : Nat) : Int) ∧ ((m : Nat) : Int) ≤ 1000000) := by omega
  have L := lp_loop k n S ok ih ((List.range m).map fun j : Nat => PyData.int (0 + (j : Nat))) r hr md (some (.d (wL (w :: ws)))) (some (.d (.int (m : Nat)))) none none (by simp; omega)
  rw [List.length_map, List.length_range] at L
  cases e2 : manyG (PL k) m r with
  | none =>
    simp only [e2] at L ⊢
    obtain ⟨md', L⟩ := L
    simp! only [ssE_ok, hdL, g, rm, and_self, Int.toNat_natCast]
    rw [L]
    simp! only [ssE_ok, fa]
    rfl
  | some q =>
    obtain ⟨ts, r2⟩ := q
    simp only [e2] at L ⊢
    obtain ⟨b4, b5, L⟩ := L
    have bt := tup_r S (md ++ ts)
    simp! only [ssE_ok, hdL, g, rm, and_self, Int.toNat_natCast]
    rw [L]
    simp! only [ssE_ok, bt, toDs, s2, fa]
    rfl
theorem c_lparse : ∀ (k n : Nat) (ws : List Str), ws.length ≤ k → ∀ st, Okk st → Fs (n + k + 1) i__law_parse [.d (wL ws)] st = .ok (.d (ansL (PL k ws))) st := by
  have s0 : small 0 = true := rfl
  have s1 : small 1 = true := rfl
  have s3 : small 3 = true := rfl
  have s4 : small 4 = true := rfl
  intro k
  induction k with
  | zero =>
    intro n ws hl st ok
    have e0 : ws = [] := List.length_eq_zero_iff.mp (by omega)
    subst e0
    have v := ve_wL [] st
    rw [decide_eq_true rfl] at v
    rw [e__law_parse]
    simp! only [ssE_ok, m__law_parse, toDs, s0, v, fin_d st ok]
    rfl
  | succ k ih =>
    intro n ws hl st ok
    rw [show n + (k + 1) + 1 = (n + k + 1) + 1 by omega, e__law_parse, lpar_eq]
    cases ws with
    | nil =>
      have v := ve_wL [] st
      rw [decide_eq_true rfl] at v
      simp! only [ssE_ok, toDs, s0, v, fin_d st ok]
      rfl
    | cons w r1 =>
      have v := ve_wL (w :: r1) st
      rw [decide_eq_false (by simp)] at v
      have hr1 : r1.length ≤ k := by simp at hl; omega
      have ix := fun st => ix_wL w r1 st
      have sl := fun st => sl_wL w r1 st
      have ih' := ih n
      have ni := nm_in w (st ++ [.lst [.str w]])
      have fa : ∀ (x : D) (md : List D), fin st.length (.d x) (st ++ [.lst md]) = .ok (.d x) st := fun x md => fin_app st [.lst md] ok x
      have e : PL (k + 1) (w :: r1) = if nm w = true then (match r1 with
        | [] => none
        | v :: r => match nQ v with
          | none => none
          | some i => stepG arL (PL k) w [.str w, .int (i : Nat)] r) else stepG arL (PL k) w [.str w] r1 := by
        cases r1 with
        | nil => simp only [PG]
        | cons v r => simp only [PG]; try rfl
      rw [e]
      by_cases q : nm w = true
      · rw [if_pos q]
        rw [q] at ni
        cases r1 with
        | nil =>
          have v2 := ve_wL [] (st ++ [.lst [.str w]])
          rw [decide_eq_true rfl] at v2
          simp! only [ssE_ok, toDs, s0, s1, s3, v, ix, sl, setVs, ni, v2, fa]
          rfl
        | cons v1 r2 =>
          have v2 := ve_wL (v1 :: r2) (st ++ [.lst [.str w]])
          rw [decide_eq_false (by simp)] at v2
          have ix1 := fun st => ix_wL v1 r2 st
          have sl1 := fun st => sl_wL v1 r2 st
          have nq := nQ_in v1 (st ++ [.lst [.str w]])
          cases en : nQ v1 with
          | none =>
            rw [en] at nq
            have nq : vNin (.d (.str v1)) (.d (.list [.str "0", .str "1", .str "2", .str "3"])) (st ++ [.lst [.str w]]) = some (.d (.bool true), st ++ [.lst [.str w]]) := nq
            simp only [en]
            simp! only [ssE_ok, toDs, s0, s1, s3, s4, v, ix, sl, setVs, ni, v2, ix1, nq, fa]
            rfl
          | some i =>
            rw [en] at nq
            have nq : vNin (.d (.str v1)) (.d (.list [.str "0", .str "1", .str "2", .str "3"])) (st ++ [.lst [.str w]]) = some (.d (.bool false), st ++ [.lst [.str w]]) := nq
            simp only [en]
            have bi := fun st => nQ_int en st
            have g : (st ++ [MO.lst [.str w]])[st.length]? = some (.lst [.str w]) := by simp
            have sx : (st ++ [MO.lst [.str w]]).set st.length (.lst [.str w, .int (i : Nat)]) = st ++ [.lst [.str w, .int (i : Nat)]] := by simp
            have sm : (0 + 1 < 1000000) = True := eq_true (by decide)
            have sm1 : (1 < 1000000) = True := eq_true (by decide)
            have ap : [PyData.str w] ++ [.int (i : Nat)] = [.str w, .int (i : Nat)] := rfl
            have hr2 : r2.length ≤ k := by simp at hr1; omega
            have T := lp_tail k (n + k + 1) st ok ih' w (v1 :: r2) [.str w, .int (i : Nat)] (by show 2 ≤ 100; decide) r2 hr2
            simp! only [ssE_ok, toDs, s0, s1, s3, s4, v, ix, sl, setVs, ni, v2, ix1, nq, bi, g, sm, sm1, ap, sx, sl1]
            exact T
      · have q : nm w = false := by simpa using q
        rw [q] at ni
        rw [q, if_neg (by decide)]
        have T := lp_tail k (n + k + 1) st ok ih' w r1 [.str w] (by show 1 ≤ 100; decide) r1 hr1
        simp! only [ssE_ok, toDs, s0, s1, s3, v, ix, sl, setVs, ni]
        exact T
end Lw
end

section
set_option maxRecDepth 100000
set_option maxHeartbeats 4000000
namespace Lw
open PySem PySem.Spec L2 Mi
/-! ### texts of sayings -/
abbrev J (ps : List Str) : Str := Str.join " " ps
theorem J_eq (ps : List Str) : Txt.join " " ps = J ps := PySem.StrLaws.glued_eq_join " " ps
theorem app_assoc (a b c : Str) : a ++ b ++ c = a ++ (b ++ c) := by
  apply Str.ext'
  apply Array.toList_inj.mp
  simp only [Str.cps_append, Array.toList_append, List.append_assoc]
theorem J_cons (x : Str) {q : List Str} (h : q ≠ []) : J (x :: q) = x ++ " " ++ J q := by
  cases q with
  | nil => exact absurd rfl h
  | cons y q => rfl
theorem J_app : ∀ (N : List Str) {M : List Str}, N ≠ [] → M ≠ [] → J (N ++ M) = J N ++ " " ++ J M
  | [], _, h, _ => absurd rfl h
  | [x], M, _, h => J_cons x h
  | x :: y :: r, M, _, h => by
    have ih := J_app (y :: r) (M := M) (by simp) h
    rw [show x :: y :: r ++ M = x :: (y :: r ++ M) from rfl, J_cons x (by simp), ih, J_cons x (q := y :: r) (by simp)]
    simp only [app_assoc]
theorem J_flat (N : List Str) (hN : N ≠ []) : ∀ (a b : List Str), J (a ++ J N :: b) = J (a ++ (N ++ b))
  | [], b => by
    by_cases hb : b = []
    · subst hb; rw [List.append_nil]; rfl
    · rw [List.nil_append, List.nil_append, J_cons _ hb, J_app N hN hb]
  | z :: a, b => by
    rw [List.cons_append, List.cons_append, J_cons z (by simp), J_flat N hN a b, J_cons z (by simp [hN])]
def tx (p : Pl) : Str := J (wds p)
theorem wds_ne (p : Pl) : wds p ≠ [] := by cases p <;> simp [wds]
theorem tx_fact (i : Nat) : tx (.fact i) = "fact" ++ " " ++ iT (i : Nat) := rfl
theorem tx_no (p : Pl) : tx (.no p) = "not" ++ " " ++ tx p := J_cons _ (wds_ne p)
theorem tx_all (p : Pl) : tx (.all p) = "all" ++ " " ++ tx p := J_cons _ (wds_ne p)
theorem tx_com (p : Pl) : tx (.com p) = "common" ++ " " ++ tx p := J_cons _ (wds_ne p)
theorem tx_holds (m : Nat) (p : Pl) : tx (.holds m p) = "holds" ++ " " ++ (iT (m : Nat) ++ " " ++ tx p) := by
  unfold tx
  show J ("holds" :: iT (m : Nat) :: wds p) = _
  rw [J_cons _ (by simp), J_cons _ (wds_ne p)]
theorem tx_may (m : Nat) (p : Pl) : tx (.may m p) = "may" ++ " " ++ (iT (m : Nat) ++ " " ++ tx p) := by
  unfold tx
  show J ("may" :: iT (m : Nat) :: wds p) = _
  rw [J_cons _ (by simp), J_cons _ (wds_ne p)]
theorem tx_an (p q : Pl) : tx (.an p q) = "and" ++ " " ++ (tx p ++ " " ++ tx q) := by
  unfold tx
  show J ("and" :: (wds p ++ wds q)) = _
  rw [J_cons _ (by simp [wds_ne]), J_app _ (wds_ne p) (wds_ne q)]
theorem tx_or (p q : Pl) : tx (.or p q) = "or" ++ " " ++ (tx p ++ " " ++ tx q) := by
  unfold tx
  show J ("or" :: (wds p ++ wds q)) = _
  rw [J_cons _ (by simp [wds_ne]), J_app _ (wds_ne p) (wds_ne q)]
theorem tx_len (m f : Nat) (hm : m ≤ 1000) (hf : f ≤ 1000) : ∀ (p : Pl), p.ok m f → (tx p).length + 12 ≤ 20 * 2 ^ p.deep := by
  have l0 : ("fact" : Str).length = 4 := by decide +kernel
  have l1 : ("not" : Str).length = 3 := by decide +kernel
  have l2 : ("and" : Str).length = 3 := by decide +kernel
  have l3 : ("or" : Str).length = 2 := by decide +kernel
  have l4 : ("holds" : Str).length = 5 := by decide +kernel
  have l5 : ("may" : Str).length = 3 := by decide +kernel
  have l6 : ("all" : Str).length = 3 := by decide +kernel
  have l7 : ("common" : Str).length = 6 := by decide +kernel
  have ls : (" " : Str).length = 1 := rfl
  intro p
  induction p with
  | fact i =>
    intro h
    have h : i < f := h
    have := iT_len (i := (i : Int)) (by omega) (by omega)
    rw [tx_fact, Str.length_append, Str.length_append, l0, ls]
    show _ ≤ 20 * 2 ^ 1
    omega
  | no p ih =>
    intro h
    have := ih h
    rw [tx_no, Str.length_append, Str.length_append, l1, ls]
    show _ ≤ 20 * 2 ^ (p.deep + 1)
    rw [Nat.pow_succ]; omega
  | all p ih =>
    intro h
    have := ih h
    rw [tx_all, Str.length_append, Str.length_append, l6, ls]
    show _ ≤ 20 * 2 ^ (p.deep + 1)
    rw [Nat.pow_succ]; omega
  | com p ih =>
    intro h
    have := ih h
    rw [tx_com, Str.length_append, Str.length_append, l7, ls]
    show _ ≤ 20 * 2 ^ (p.deep + 1)
    rw [Nat.pow_succ]; omega
  | holds k p ih =>
    intro h
    have := ih h.2
    have hk : k < m := h.1
    have := iT_len (i := (k : Int)) (by omega) (by omega)
    rw [tx_holds, Str.length_append, Str.length_append, Str.length_append, Str.length_append, l4, ls]
    show _ ≤ 20 * 2 ^ (p.deep + 1)
    rw [Nat.pow_succ]; omega
  | may k p ih =>
    intro h
    have := ih h.2
    have hk : k < m := h.1
    have := iT_len (i := (k : Int)) (by omega) (by omega)
    rw [tx_may, Str.length_append, Str.length_append, Str.length_append, Str.length_append, l5, ls]
    show _ ≤ 20 * 2 ^ (p.deep + 1)
    rw [Nat.pow_succ]; omega
  | an p q ih ih2 =>
    intro h
    have := ih h.1
    have := ih2 h.2
    have a : 2 ^ p.deep ≤ 2 ^ max p.deep q.deep := Nat.pow_le_pow_right (by decide) (Nat.le_max_left _ _)
    have b : 2 ^ q.deep ≤ 2 ^ max p.deep q.deep := Nat.pow_le_pow_right (by decide) (Nat.le_max_right _ _)
    rw [tx_an, Str.length_append, Str.length_append, Str.length_append, Str.length_append, l2, ls]
    show _ ≤ 20 * 2 ^ (max p.deep q.deep + 1)
    rw [Nat.pow_succ]; omega
  | or p q ih ih2 =>
    intro h
    have := ih h.1
    have := ih2 h.2
    have a : 2 ^ p.deep ≤ 2 ^ max p.deep q.deep := Nat.pow_le_pow_right (by decide) (Nat.le_max_left _ _)
    have b : 2 ^ q.deep ≤ 2 ^ max p.deep q.deep := Nat.pow_le_pow_right (by decide) (Nat.le_max_right _ _)
    rw [tx_or, Str.length_append, Str.length_append, Str.length_append, Str.length_append, l3, ls]
    show _ ≤ 20 * 2 ^ (max p.deep q.deep + 1)
    rw [Nat.pow_succ]; omega
/-! saying_text, by its kinds -/
theorem join2 {eo ea : EE} {env : Ev} {st s2 : Sto} {y : Val} {ys : List Str} (h1 : eo env st = .ok (.d (.str " ")) st) (h2 : ea env st = .ok y s2) (h3 : sqOf y s2 = some (ys.map .str)) (h4 : ys.length ≤ 4) (hB : ∀ y ∈ ys, y.length ≤ 200000) : eJoin eo ea env st = .ok (.d (.str (J ys))) s2 := by
  have e : (" " : Str).length = 1 := rfl
  have := join_ok h1 h2 h3 200000 hB (by rw [e]; omega)
  rwa [J_eq] at this
theorem c_st_1 {w : Str} (hw : w = "not" ∨ w = "all" ∨ w = "common") {d : D} {T : Str} (hT : T.length ≤ 200000) (n : Nat) (st : Sto) (h : Okk st) (r : Fs n i_saying_text [.d d] st = .ok (.d (.str T)) st) : Fs (n + 1) i_saying_text [.d (.tuple [.str w, d])] st = .ok (.d (.str (w ++ " " ++ T))) st := by
  have i0 : vIx (.d (.tuple [.str w, d])) (.d (.int 0)) st = some (.d (.str w), st) := rfl
  have wl : w.length ≤ 200000 := by rcases hw with rfl | rfl | rfl <;> decide +kernel
  have s0 : small 0 = true := rfl
  have s1 : small 1 = true := rfl
  have s2 : small 2 = true := rfl
  have a1 := wEq w "fact" st
  rw [show (w == "fact") = false by rcases hw with rfl | rfl | rfl <;> decide +kernel] at a1
  have a2 := in2 w "holds" "may" st
  rw [show (("holds" : Str) == w || ("may" : Str) == w) = false by rcases hw with rfl | rfl | rfl <;> decide +kernel] at a2
  have a3 := in2 w "and" "or" st
  rw [show (("and" : Str) == w || ("or" : Str) == w) = false by rcases hw with rfl | rfl | rfl <;> decide +kernel] at a3
  have va : vAdd (.d (.list [.str w])) (.d (.list [])) st = some (.d (.list [.str w]), st) := rfl
  have va2 : vAdd (.d (.list [.str w])) (.d (.list [.str T])) st = some (.d (.list [.str w, .str T]), st) := rfl
  have sl : vSl (.d (.tuple [.str w, d])) (some (-1)) none st = some (.d (.tuple [d]), st) := rfl
  have sq : ∀ (l : List D) (st : Sto), (R.ok (.d (.tuple l)) st).seqI = .ok l st := fun _ _ => rfl
  have jo : eJoin (eC (.str " ")) (eOp vAdd (eVar 1) (eLc [3] (.nm 3) (iSeq (eVar 2)) kYes (eCl 1 (Fs n 10) (aCons (eVar 3) aNil)))) [some (.d (.tuple [.str w, d])), some (.d (.list [.str w])), some (.d (.tuple [d])), none] st = .ok (.d (.str (w ++ " " ++ T))) st := by
    refine join2 (ys := [w, T]) (y := .d (.list [.str w, .str T])) rfl ?_ rfl (by show 2 ≤ 4; decide) (fun y hy => ?_)
    · simp! only [ssE_ok, sq, s1, compL, noX_ok, R.bind, r, va2]
    · simp only [List.mem_cons, List.not_mem_nil, or_false] at hy
      rcases hy with rfl | rfl <;> assumption
  rw [e_saying_text]
  simp! only [ssE_ok, m_saying_text, i0, a1, toDs, s0, s1, s2, a2, a3, va, sl, jo, fin_d st h]
theorem c_st_n {w : Str} (hw : w = "holds" ∨ w = "may") (k : Nat) (hk : k < 1000) {d : D} {T : Str} (hT : T.length ≤ 200000) (n : Nat) (st : Sto) (h : Okk st) (r : Fs n i_saying_text [.d d] st = .ok (.d (.str T)) st) : Fs (n + 1) i_saying_text [.d (.tuple [.str w, .int k, d])] st = .ok (.d (.str (w ++ " " ++ (iT (k : Nat) ++ " " ++ T)))) st := by
  have i0 : vIx (.d (.tuple [.str w, .int k, d])) (.d (.int 0)) st = some (.d (.str w), st) := rfl
  have i1 : vIx (.d (.tuple [.str w, .int k, d])) (.d (.int 1)) st = some (.d (.int k), st) := rfl
  have wl : w.length ≤ 200000 := by rcases hw with rfl | rfl <;> decide +kernel
  have kl : (iT (k : Nat)).length ≤ 200000 := by have := iT_len (i := (k : Int)) (by omega) (by omega); omega
  have s0 : small 0 = true := rfl
  have s1 : small 1 = true := rfl
  have s2 : small 2 = true := rfl
  have a1 := wEq w "fact" st
  rw [show (w == "fact") = false by rcases hw with rfl | rfl <;> decide +kernel] at a1
  have a2 := in2 w "holds" "may" st
  rw [show (("holds" : Str) == w || ("may" : Str) == w) = true by rcases hw with rfl | rfl <;> decide +kernel] at a2
  have a3 := in2 w "and" "or" st
  rw [show (("and" : Str) == w || ("or" : Str) == w) = false by rcases hw with rfl | rfl <;> decide +kernel] at a3
  have si := strI_ok (i := (k : Int)) (by omega) (by omega) st
  have va : vAdd (.d (.list [.str w])) (.d (.list [.str (iT (k : Nat))])) st = some (.d (.list [.str w, .str (iT (k : Nat))]), st) := rfl
  have va2 : vAdd (.d (.list [.str w, .str (iT (k : Nat))])) (.d (.list [.str T])) st = some (.d (.list [.str w, .str (iT (k : Nat)), .str T]), st) := rfl
  have sl : vSl (.d (.tuple [.str w, .int k, d])) (some (-1)) none st = some (.d (.tuple [d]), st) := rfl
  have sq : ∀ (l : List D) (st : Sto), (R.ok (.d (.tuple l)) st).seqI = .ok l st := fun _ _ => rfl
  have jo : eJoin (eC (.str " ")) (eOp vAdd (eVar 1) (eLc [3] (.nm 3) (iSeq (eVar 2)) kYes (eCl 1 (Fs n 10) (aCons (eVar 3) aNil)))) [some (.d (.tuple [.str w, .int k, d])), some (.d (.list [.str w, .str (iT (k : Nat))])), some (.d (.tuple [d])), none] st = .ok (.d (.str (w ++ " " ++ (iT (k : Nat) ++ " " ++ T)))) st := by
    refine join2 (ys := [w, iT (k : Nat), T]) (y := .d (.list [.str w, .str (iT (k : Nat)), .str T])) rfl ?_ rfl (by show 3 ≤ 4; decide) (fun y hy => ?_)
    · simp! only [ssE_ok, sq, s1, compL, noX_ok, R.bind, r, va2]
    · simp only [List.mem_cons, List.not_mem_nil, or_false] at hy
      rcases hy with rfl | rfl | rfl <;> assumption
  rw [e_saying_text]
  simp! only [ssE_ok, m_saying_text, i0, i1, a1, toDs, s0, s1, s2, a2, a3, si, va, sl, jo, fin_d st h]
theorem c_st_2 {w : Str} (hw : w = "and" ∨ w = "or") {d e : D} {T U : Str} (hT : T.length ≤ 200000) (hU : U.length ≤ 200000) (n : Nat) (st : Sto) (h : Okk st) (r : Fs n i_saying_text [.d d] st = .ok (.d (.str T)) st) (r2 : Fs n i_saying_text [.d e] st = .ok (.d (.str U)) st) : Fs (n + 1) i_saying_text [.d (.tuple [.str w, d, e])] st = .ok (.d (.str (w ++ " " ++ (T ++ " " ++ U)))) st := by
  have i0 : vIx (.d (.tuple [.str w, d, e])) (.d (.int 0)) st = some (.d (.str w), st) := rfl
  have wl : w.length ≤ 200000 := by rcases hw with rfl | rfl <;> decide +kernel
  have s0 : small 0 = true := rfl
  have s1 : small 1 = true := rfl
  have s2 : small 2 = true := rfl
  have a1 := wEq w "fact" st
  rw [show (w == "fact") = false by rcases hw with rfl | rfl <;> decide +kernel] at a1
  have a2 := in2 w "holds" "may" st
  rw [show (("holds" : Str) == w || ("may" : Str) == w) = false by rcases hw with rfl | rfl <;> decide +kernel] at a2
  have a3 := in2 w "and" "or" st
  rw [show (("and" : Str) == w || ("or" : Str) == w) = true by rcases hw with rfl | rfl <;> decide +kernel] at a3
  have va : vAdd (.d (.list [.str w])) (.d (.list [])) st = some (.d (.list [.str w]), st) := rfl
  have va2 : vAdd (.d (.list [.str w])) (.d (.list [.str T, .str U])) st = some (.d (.list [.str w, .str T, .str U]), st) := rfl
  have sl : vSl (.d (.tuple [.str w, d, e])) (some 1) none st = some (.d (.tuple [d, e]), st) := rfl
  have sq : ∀ (l : List D) (st : Sto), (R.ok (.d (.tuple l)) st).seqI = .ok l st := fun _ _ => rfl
  have jo : eJoin (eC (.str " ")) (eOp vAdd (eVar 1) (eLc [3] (.nm 3) (iSeq (eVar 2)) kYes (eCl 1 (Fs n 10) (aCons (eVar 3) aNil)))) [some (.d (.tuple [.str w, d, e])), some (.d (.list [.str w])), some (.d (.tuple [d, e])), none] st = .ok (.d (.str (w ++ " " ++ (T ++ " " ++ U)))) st := by
    refine join2 (ys := [w, T, U]) (y := .d (.list [.str w, .str T, .str U])) rfl ?_ rfl (by show 3 ≤ 4; decide) (fun y hy => ?_)
    · simp! only [ssE_ok, sq, s2, compL, noX_ok, R.bind, r, r2, va2]
    · simp only [List.mem_cons, List.not_mem_nil, or_false] at hy
      rcases hy with rfl | rfl | rfl <;> assumption
  rw [e_saying_text]
  simp! only [ssE_ok, m_saying_text, i0, a1, toDs, s0, s1, s2, a2, a3, va, sl, jo, fin_d st h]
theorem c_st_f (i : Nat) (hi : i < 1000) (n : Nat) (st : Sto) (h : Okk st) : Fs (n + 1) i_saying_text [.d (.tuple [.str "fact", .int i])] st = .ok (.d (.str ("fact" ++ " " ++ iT (i : Nat)))) st := by
  have i0 : vIx (.d (.tuple [.str "fact", .int i])) (.d (.int 0)) st = some (.d (.str "fact"), st) := rfl
  have i1 : vIx (.d (.tuple [.str "fact", .int i])) (.d (.int 1)) st = some (.d (.int i), st) := rfl
  have a1 : vEq (.d (.str "fact")) (.d (.str "fact")) st = some (.d (.bool true), st) := rfl
  have kl := iT_len (i := (i : Int)) (by omega) (by omega)
  have e5 : ("fact " : Str).length = 5 := by decide +kernel
  have e0 : Str.empty.length = 0 := rfl
  have jf : eJoinF [eC (.str "fact "), eFmt (eOp vIx (eVar 0) (eC (.int 1)))] Str.empty [some (.d (.tuple [.str "fact", .int i])), none, none, none] st = .ok (.d (.str ("fact" ++ " " ++ iT (i : Nat)))) st := by
    rw [joinF_cons (y := "fact ") rfl (by rw [Str.length_append, e5, e0]; decide), joinF_cons (fmt_ok (i := (i : Int)) (by simp! only [ssE_ok, i1]) (by omega) (by omega)) (by rw [Str.length_append, Str.length_append, e5, e0]; omega)]
    have e : (Str.empty ++ "fact " : Str) = "fact" ++ " " := by decide +kernel
    rw [e]; rfl
  rw [e_saying_text]
  simp! only [ssE_ok, m_saying_text, i0, a1, jf, fin_d st h]
theorem c_stext (st : Sto) (h : Okk st) : ∀ (p : Pl), p.ok 3 4 → p.deep ≤ 12 → ∀ n, Fs (n + p.deep) i_saying_text [.d p.d] st = .ok (.d (.str (tx p))) st := by
  have le : ∀ p : Pl, p.ok 3 4 → p.deep ≤ 12 → (tx p).length ≤ 200000 := fun p hp hd => by
    have a := tx_len 3 4 (by decide) (by decide) p hp
    have b : 2 ^ p.deep ≤ 2 ^ 12 := Nat.pow_le_pow_right (by decide) hd
    omega
  intro p
  induction p with
  | fact i => intro hp hd n; rw [tx_fact]; exact c_st_f i (by have : i < 4 := hp; omega) n st h
  | no p ih => intro hp hd n; have hd : p.deep + 1 ≤ 12 := hd; rw [tx_no]; exact c_st_1 (.inl rfl) (le p hp (by omega)) (n + p.deep) st h (ih hp (by omega) n)
  | all p ih => intro hp hd n; have hd : p.deep + 1 ≤ 12 := hd; rw [tx_all]; exact c_st_1 (.inr (.inl rfl)) (le p hp (by omega)) (n + p.deep) st h (ih hp (by omega) n)
  | com p ih => intro hp hd n; have hd : p.deep + 1 ≤ 12 := hd; rw [tx_com]; exact c_st_1 (.inr (.inr rfl)) (le p hp (by omega)) (n + p.deep) st h (ih hp (by omega) n)
  | holds k p ih => intro hp hd n; have hd : p.deep + 1 ≤ 12 := hd; rw [tx_holds]; exact c_st_n (.inl rfl) k (by have : k < 3 := hp.1; omega) (le p hp.2 (by omega)) (n + p.deep) st h (ih hp.2 (by omega) n)
  | may k p ih => intro hp hd n; have hd : p.deep + 1 ≤ 12 := hd; rw [tx_may]; exact c_st_n (.inr rfl) k (by have : k < 3 := hp.1; omega) (le p hp.2 (by omega)) (n + p.deep) st h (ih hp.2 (by omega) n)
  | an p q ih ih2 =>
    intro hp hd n
    have hd : max p.deep q.deep + 1 ≤ 12 := hd
    have a := ih hp.1 (by omega) (n + (max p.deep q.deep - p.deep))
    have b := ih2 hp.2 (by omega) (n + (max p.deep q.deep - q.deep))
    rw [show n + (max p.deep q.deep - p.deep) + p.deep = n + max p.deep q.deep by omega] at a
    rw [show n + (max p.deep q.deep - q.deep) + q.deep = n + max p.deep q.deep by omega] at b
    rw [tx_an]
    exact c_st_2 (.inl rfl) (le p hp.1 (by omega)) (le q hp.2 (by omega)) (n + max p.deep q.deep) st h a b
  | or p q ih ih2 =>
    intro hp hd n
    have hd : max p.deep q.deep + 1 ≤ 12 := hd
    have a := ih hp.1 (by omega) (n + (max p.deep q.deep - p.deep))
    have b := ih2 hp.2 (by omega) (n + (max p.deep q.deep - q.deep))
    rw [show n + (max p.deep q.deep - p.deep) + p.deep = n + max p.deep q.deep by omega] at a
    rw [show n + (max p.deep q.deep - q.deep) + q.deep = n + max p.deep q.deep by omega] at b
    rw [tx_or]
    exact c_st_2 (.inr rfl) (le p hp.1 (by omega)) (le q hp.2 (by omega)) (n + max p.deep q.deep) st h a b
end Lw
end

section
set_option maxRecDepth 100000
set_option maxHeartbeats 4000000
namespace Lw
open PySem PySem.Spec L2 Mi
/-! ### _law_text of sayings, by its kinds -/
theorem lst_r (S : Sto) (xs : List D) : sqOf (.r S.length) (S ++ [.lst xs]) = some xs := by
  have g : (S ++ [MO.lst xs])[S.length]? = some (.lst xs) := by simp
  simp only [sqOf, lsOf, g]
theorem ty_pl (p : Pl) (st : Sto) : tyOf (.d p.d) st = some "tuple" := by cases p <;> rfl
theorem c_lt_1 {w : Str} (wl : w.length ≤ 200000) {d : D} (ty : ∀ st, tyOf (.d d) st = some "tuple") {T : Str} (hT : T.length ≤ 200000) (n : Nat) (st : Sto) (h : Okk st) (r : ∀ st, Okk st → Fs n i__law_text [.d d] st = .ok (.d (.str T)) st) : Fs (n + 1) i__law_text [.d (.tuple [.str w, d])] st = .ok (.d (.str (w ++ " " ++ T))) st := by
  have i0 : vIx (.d (.tuple [.str w, d])) (.d (.int 0)) st = some (.d (.str w), st) := rfl
  have s1 : small 1 = true := rfl
  have sl : ∀ st : Sto, vSl (.d (.tuple [.str w, d])) (some 1) none st = some (.d (.tuple [d]), st) := fun _ => rfl
  have sq : ∀ (l : List D) (st : Sto), (R.ok (.d (.tuple l)) st).seqI = .ok l st := fun _ _ => rfl
  have okS : ∀ m, Okk (st ++ [MO.lst m]) := fun m => okk_app st h _ rfl
  have r1 := r (st ++ [.lst [.str w]]) (okS _)
  have g : (st ++ [MO.lst [.str w]])[st.length]? = some (.lst [.str w]) := by simp
  have sx : (st ++ [MO.lst [.str w]]).set st.length (.lst ([.str w] ++ [.str T])) = st ++ [.lst [.str w, .str T]] := by simp
  have sm : (0 + 1 < 1000000) = True := eq_true (by decide)
  have sm1 : (1 < 1000000) = True := eq_true (by decide)
  have kt : kitB "tuple" "tuple" = some true := rfl
  have jo : ∀ a0 a2, eJoin (eC (.str " ")) (eVar 1) [a0, some (.r st.length), a2] (st ++ [.lst [.str w, .str T]]) = .ok (.d (.str (w ++ " " ++ T))) (st ++ [.lst [.str w, .str T]]) := fun a0 a2 => by
    refine join2 (ys := [w, T]) (y := .r st.length) rfl rfl (lst_r st _) (by show 2 ≤ 4; decide) (fun y hy => ?_)
    simp only [List.mem_cons, List.not_mem_nil, or_false] at hy
    rcases hy with rfl | rfl <;> assumption
  rw [e__law_text]
  simp! only [ssE_ok, m__law_text, i0, toDs, s1, sl, sq, forL, ty, kt, r1, g, sm, sm1, sx, jo, fin_app st _ h]
theorem c_lt_n {w : Str} (wl : w.length ≤ 200000) (k : Nat) (hk : k < 1000) {d : D} (ty : ∀ st, tyOf (.d d) st = some "tuple") {T : Str} (hT : T.length ≤ 200000) (n : Nat) (st : Sto) (h : Okk st) (r : ∀ st, Okk st → Fs n i__law_text [.d d] st = .ok (.d (.str T)) st) : Fs (n + 1) i__law_text [.d (.tuple [.str w, .int k, d])] st = .ok (.d (.str (w ++ " " ++ (iT (k : Nat) ++ " " ++ T)))) st := by
  have i0 : vIx (.d (.tuple [.str w, .int k, d])) (.d (.int 0)) st = some (.d (.str w), st) := rfl
  have kl : (iT (k : Nat)).length ≤ 200000 := by have := iT_len (i := (k : Int)) (by omega) (by omega); omega
  have s1 : small 1 = true := rfl
  have sl : ∀ st : Sto, vSl (.d (.tuple [.str w, .int k, d])) (some 1) none st = some (.d (.tuple [.int k, d]), st) := fun _ => rfl
  have sq : ∀ (l : List D) (st : Sto), (R.ok (.d (.tuple l)) st).seqI = .ok l st := fun _ _ => rfl
  have okS : ∀ m, Okk (st ++ [MO.lst m]) := fun m => okk_app st h _ rfl
  have r1 := r (st ++ [.lst [.str w, .str (iT (k : Nat))]]) (okS _)
  have si := strI_ok (i := (k : Int)) (by omega) (by omega) (st ++ [.lst [.str w]])
  have g : (st ++ [MO.lst [.str w]])[st.length]? = some (.lst [.str w]) := by simp
  have sx : (st ++ [MO.lst [.str w]]).set st.length (.lst ([.str w] ++ [.str (iT (k : Nat))])) = st ++ [.lst [.str w, .str (iT (k : Nat))]] := by simp
  have g2 : (st ++ [MO.lst [.str w, .str (iT (k : Nat))]])[st.length]? = some (.lst [.str w, .str (iT (k : Nat))]) := by simp
  have sx2 : (st ++ [MO.lst [.str w, .str (iT (k : Nat))]]).set st.length (.lst ([.str w, .str (iT (k : Nat))] ++ [.str T])) = st ++ [.lst [.str w, .str (iT (k : Nat)), .str T]] := by simp
  have sm : (0 + 1 < 1000000) = True := eq_true (by decide)
  have sm1 : (1 < 1000000) = True := eq_true (by decide)
  have sm2 : (2 < 1000000) = True := eq_true (by decide)
  have kt : kitB "tuple" "tuple" = some true := rfl
  have ki : kitB "int" "tuple" = some false := rfl
  have tyi : ∀ st, tyOf (.d (.int (k : Nat))) st = some "int" := fun _ => rfl
  have jo : ∀ a0 a2, eJoin (eC (.str " ")) (eVar 1) [a0, some (.r st.length), a2] (st ++ [.lst [.str w, .str (iT (k : Nat)), .str T]]) = .ok (.d (.str (w ++ " " ++ (iT (k : Nat) ++ " " ++ T)))) (st ++ [.lst [.str w, .str (iT (k : Nat)), .str T]]) := fun a0 a2 => by
    refine join2 (ys := [w, iT (k : Nat), T]) (y := .r st.length) rfl rfl (lst_r st _) (by show 3 ≤ 4; decide) (fun y hy => ?_)
    simp only [List.mem_cons, List.not_mem_nil, or_false] at hy
    rcases hy with rfl | rfl | rfl <;> assumption
  rw [e__law_text]
  simp! only [ssE_ok, m__law_text, i0, toDs, s1, sl, sq, forL, ty, tyi, kt, ki, si, r1, g, g2, sm, sm1, sm2, sx, sx2, jo, fin_app st _ h]
theorem c_lt_2 {w : Str} (wl : w.length ≤ 200000) {d e : D} (ty : ∀ st, tyOf (.d d) st = some "tuple") (te : ∀ st, tyOf (.d e) st = some "tuple") {T U : Str} (hT : T.length ≤ 200000) (hU : U.length ≤ 200000) (n : Nat) (st : Sto) (h : Okk st) (r : ∀ st, Okk st → Fs n i__law_text [.d d] st = .ok (.d (.str T)) st) (r2 : ∀ st, Okk st → Fs n i__law_text [.d e] st = .ok (.d (.str U)) st) : Fs (n + 1) i__law_text [.d (.tuple [.str w, d, e])] st = .ok (.d (.str (w ++ " " ++ (T ++ " " ++ U)))) st := by
  have i0 : vIx (.d (.tuple [.str w, d, e])) (.d (.int 0)) st = some (.d (.str w), st) := rfl
  have s1 : small 1 = true := rfl
  have sl : ∀ st : Sto, vSl (.d (.tuple [.str w, d, e])) (some 1) none st = some (.d (.tuple [d, e]), st) := fun _ => rfl
  have sq : ∀ (l : List D) (st : Sto), (R.ok (.d (.tuple l)) st).seqI = .ok l st := fun _ _ => rfl
  have okS : ∀ m, Okk (st ++ [MO.lst m]) := fun m => okk_app st h _ rfl
  have r1 := r (st ++ [.lst [.str w]]) (okS _)
  have r3 := r2 (st ++ [.lst [.str w, .str T]]) (okS _)
  have g : (st ++ [MO.lst [.str w]])[st.length]? = some (.lst [.str w]) := by simp
  have sx : (st ++ [MO.lst [.str w]]).set st.length (.lst ([.str w] ++ [.str T])) = st ++ [.lst [.str w, .str T]] := by simp
  have g2 : (st ++ [MO.lst [.str w, .str T]])[st.length]? = some (.lst [.str w, .str T]) := by simp
  have sx2 : (st ++ [MO.lst [.str w, .str T]]).set st.length (.lst ([.str w, .str T] ++ [.str U])) = st ++ [.lst [.str w, .str T, .str U]] := by simp
  have sm : (0 + 1 < 1000000) = True := eq_true (by decide)
  have sm1 : (1 < 1000000) = True := eq_true (by decide)
  have sm2 : (2 < 1000000) = True := eq_true (by decide)
  have kt : kitB "tuple" "tuple" = some true := rfl
  have jo : ∀ a0 a2, eJoin (eC (.str " ")) (eVar 1) [a0, some (.r st.length), a2] (st ++ [.lst [.str w, .str T, .str U]]) = .ok (.d (.str (w ++ " " ++ (T ++ " " ++ U)))) (st ++ [.lst [.str w, .str T, .str U]]) := fun a0 a2 => by
    refine join2 (ys := [w, T, U]) (y := .r st.length) rfl rfl (lst_r st _) (by show 3 ≤ 4; decide) (fun y hy => ?_)
    simp only [List.mem_cons, List.not_mem_nil, or_false] at hy
    rcases hy with rfl | rfl | rfl <;> assumption
  rw [e__law_text]
  simp! only [ssE_ok, m__law_text, i0, toDs, s1, sl, sq, forL, ty, te, kt, r1, r3, g, g2, sm, sm1, sm2, sx, sx2, jo, fin_app st _ h]
theorem c_lt_f (i : Nat) (hi : i < 1000) (n : Nat) (st : Sto) (h : Okk st) : Fs (n + 1) i__law_text [.d (.tuple [.str "fact", .int i])] st = .ok (.d (.str ("fact" ++ " " ++ iT (i : Nat)))) st := by
  have i0 : vIx (.d (.tuple [.str "fact", .int i])) (.d (.int 0)) st = some (.d (.str "fact"), st) := rfl
  have kl : (iT (i : Nat)).length ≤ 200000 := by have := iT_len (i := (i : Int)) (by omega) (by omega); omega
  have wl : ("fact" : Str).length ≤ 200000 := by decide +kernel
  have s1 : small 1 = true := rfl
  have sl : ∀ st : Sto, vSl (.d (.tuple [.str "fact", .int i])) (some 1) none st = some (.d (.tuple [.int i]), st) := fun _ => rfl
  have sq : ∀ (l : List D) (st : Sto), (R.ok (.d (.tuple l)) st).seqI = .ok l st := fun _ _ => rfl
  have si := strI_ok (i := (i : Int)) (by omega) (by omega) (st ++ [.lst [.str "fact"]])
  have g : (st ++ [MO.lst [.str "fact"]])[st.length]? = some (.lst [.str "fact"]) := by simp
  have sx : (st ++ [MO.lst [.str "fact"]]).set st.length (.lst ([.str "fact"] ++ [.str (iT (i : Nat))])) = st ++ [.lst [.str "fact", .str (iT (i : Nat))]] := by simp
  have sm : (0 + 1 < 1000000) = True := eq_true (by decide)
  have sm1 : (1 < 1000000) = True := eq_true (by decide)
  have ki : kitB "int" "tuple" = some false := rfl
  have tyi : ∀ st, tyOf (.d (.int (i : Nat))) st = some "int" := fun _ => rfl
  have jo : ∀ a0 a2, eJoin (eC (.str " ")) (eVar 1) [a0, some (.r st.length), a2] (st ++ [.lst [.str "fact", .str (iT (i : Nat))]]) = .ok (.d (.str ("fact" ++ " " ++ iT (i : Nat)))) (st ++ [.lst [.str "fact", .str (iT (i : Nat))]]) := fun a0 a2 => by
    refine join2 (ys := ["fact", iT (i : Nat)]) (y := .r st.length) rfl rfl (lst_r st _) (by show 2 ≤ 4; decide) (fun y hy => ?_)
    simp only [List.mem_cons, List.not_mem_nil, or_false] at hy
    rcases hy with rfl | rfl <;> assumption
  rw [e__law_text]
  simp! only [ssE_ok, m__law_text, i0, toDs, s1, sl, sq, forL, tyi, ki, si, g, sm, sm1, sx, jo, fin_app st _ h]
theorem c_ltext : ∀ (p : Pl), p.ok 3 4 → p.deep ≤ 12 → ∀ n st, Okk st → Fs (n + p.deep) i__law_text [.d p.d] st = .ok (.d (.str (tx p))) st := by
  have le : ∀ p : Pl, p.ok 3 4 → p.deep ≤ 12 → (tx p).length ≤ 200000 := fun p hp hd => by
    have a := tx_len 3 4 (by decide) (by decide) p hp
    have b : 2 ^ p.deep ≤ 2 ^ 12 := Nat.pow_le_pow_right (by decide) hd
    omega
  intro p
  induction p with
  | fact i => intro hp hd n st h; rw [tx_fact]; exact c_lt_f i (by have : i < 4 := hp; omega) n st h
  | no p ih => intro hp hd n st h; have hd : p.deep + 1 ≤ 12 := hd; rw [tx_no]; exact c_lt_1 (by decide +kernel) (ty_pl p) (le p hp (by omega)) (n + p.deep) st h (ih hp (by omega) n)
  | all p ih => intro hp hd n st h; have hd : p.deep + 1 ≤ 12 := hd; rw [tx_all]; exact c_lt_1 (by decide +kernel) (ty_pl p) (le p hp (by omega)) (n + p.deep) st h (ih hp (by omega) n)
  | com p ih => intro hp hd n st h; have hd : p.deep + 1 ≤ 12 := hd; rw [tx_com]; exact c_lt_1 (by decide +kernel) (ty_pl p) (le p hp (by omega)) (n + p.deep) st h (ih hp (by omega) n)
  | holds k p ih => intro hp hd n st h; have hd : p.deep + 1 ≤ 12 := hd; rw [tx_holds]; exact c_lt_n (by decide +kernel) k (by have : k < 3 := hp.1; omega) (ty_pl p) (le p hp.2 (by omega)) (n + p.deep) st h (ih hp.2 (by omega) n)
  | may k p ih => intro hp hd n st h; have hd : p.deep + 1 ≤ 12 := hd; rw [tx_may]; exact c_lt_n (by decide +kernel) k (by have : k < 3 := hp.1; omega) (ty_pl p) (le p hp.2 (by omega)) (n + p.deep) st h (ih hp.2 (by omega) n)
  | an p q ih ih2 =>
    intro hp hd n st h
    have hd : max p.deep q.deep + 1 ≤ 12 := hd
    have a := ih hp.1 (by omega) (n + (max p.deep q.deep - p.deep))
    have b := ih2 hp.2 (by omega) (n + (max p.deep q.deep - q.deep))
    rw [show n + (max p.deep q.deep - p.deep) + p.deep = n + max p.deep q.deep by omega] at a
    rw [show n + (max p.deep q.deep - q.deep) + q.deep = n + max p.deep q.deep by omega] at b
    rw [tx_an]
    exact c_lt_2 (by decide +kernel) (ty_pl p) (ty_pl q) (le p hp.1 (by omega)) (le q hp.2 (by omega)) (n + max p.deep q.deep) st h a b
  | or p q ih ih2 =>
    intro hp hd n st h
    have hd : max p.deep q.deep + 1 ≤ 12 := hd
    have a := ih hp.1 (by omega) (n + (max p.deep q.deep - p.deep))
    have b := ih2 hp.2 (by omega) (n + (max p.deep q.deep - q.deep))
    rw [show n + (max p.deep q.deep - p.deep) + p.deep = n + max p.deep q.deep by omega] at a
    rw [show n + (max p.deep q.deep - q.deep) + q.deep = n + max p.deep q.deep by omega] at b
    rw [tx_or]
    exact c_lt_2 (by decide +kernel) (ty_pl p) (ty_pl q) (le p hp.1 (by omega)) (le q hp.2 (by omega)) (n + max p.deep q.deep) st h a b
end Lw
end

section
set_option maxRecDepth 100000
set_option maxHeartbeats 1000000
namespace Lw
open PySem PySem.Spec L2 Mi
/-! ### texts read, plainly -/
abbrev ON := List (Option Nat)
def vals (x : ON) : List Int := x.map fun o => ((o.getD 0 : Nat) : Int)
structure Rdr (f : Str → Option Nat) (B : Nat) : Prop where
  of : ∀ {k : Nat}, k < B → f (iT k) = some k
  is : ∀ {w : Str} {k : Nat}, f w = some k → w = iT k ∧ k < B
  le : B ≤ 1000
theorem split_ne (x y : Str) : Txt.split x y ≠ [] := fun e => by
  unfold Txt.split at e
  split at e
  · cases e
  · split at e
    · cases e
    · rw [PySem.StrLaws.partsBetween_eq] at e
      obtain ⟨p, r, h⟩ := PySem.StrLaws.partsFrom_ne x y.length 0 (PySem.Builtin.Str.occurrences x y 0 x.length (x.length + 1))
      rw [h] at e; cases e
section
variable {f : Str → Option Nat} {B : Nat} (R : Rdr f B)
include R
end
end Lw
end

section
set_option maxRecDepth 100000
set_option maxHeartbeats 4000000
namespace Lw
open PySem PySem.Spec L2 Mi
/-! ### data that is plain and not deep -/
theorem pl_all {k : Nat} : ∀ {xs : List D}, (∀ x ∈ xs, x.plain = true ∧ x.depth ≤ k) → PyData.plainAll xs = true ∧ PyData.depthAll xs ≤ k
  | [], _ => ⟨rfl, Nat.zero_le _⟩
  | x :: xs, h => by
    have a := h x List.mem_cons_self
    have b := pl_all fun y hy => h y (List.mem_cons_of_mem _ hy)
    exact ⟨by simp only [PyData.plainAll, a.1, b.1, Bool.and_self], by simp only [PyData.depthAll]; omega⟩
theorem pl_tup {k : Nat} {xs : List D} (h : ∀ x ∈ xs, x.plain = true ∧ x.depth ≤ k) : (PyData.tuple xs).plain = true ∧ (PyData.tuple xs).depth ≤ k + 1 := by
  have a := pl_all h
  exact ⟨by simpa only [PyData.plain] using a.1, by simp only [PyData.depth]; omega⟩
theorem pl_int (i : Int) : (PyData.int i).plain = true ∧ (PyData.int i).depth ≤ 0 := ⟨rfl, Nat.le_refl _⟩
theorem ne_pl {x : D} {k : Nat} (h : x.plain = true ∧ x.depth ≤ k) (hk : k ≤ 150) (st : Sto) : vNe (.d x) (.d x) st = some (.d (.bool false), st) := by
  have f : fits x x = true := by unfold fits; simp [h.1]; omega
  simp only [vNe, datOf, f, if_true, PySem.SeqAt.eqv_refl_plain x h.1, Bool.not_true]
theorem eq_pl {x : D} {k : Nat} (h : x.plain = true ∧ x.depth ≤ k) (hk : k ≤ 150) (st : Sto) : vEq (.d x) (.d x) st = some (.d (.bool true), st) := by
  have f : fits x x = true := by unfold fits; simp [h.1]; omega
  simp only [vEq, datOf, f, if_true, PySem.SeqAt.eqv_refl_plain x h.1]
end Lw
end

section
set_option maxRecDepth 100000
set_option maxHeartbeats 4000000
namespace Lw
open PySem PySem.Spec L2 Mi
/-! ### what both readers answer -/
theorem split_ok {eo : EE} {env : Ev} {st : Sto} {t sep : Str} (he : eo env st = .ok (.d (.str t)) st) (h1 : (sep.length == 0) = false) (h2 : t.length ≤ 900000) : eSplit eo (eC (.str sep)) env st = .ok (.d (.list ((Txt.split t sep).map .str))) st := by
  have sm : small (t.length + 2) = true := small_le _ (by omega)
  unfold eSplit
  rw [he]
  simp only [R.bind_ok, eC_eq, h1, sm, and_self, if_true]
def LT.of : Pl → LT
  | .fact i => .fact i
  | .no p => .no (LT.of p)
  | .holds m p => .holds m (LT.of p)
  | .may m p => .may m (LT.of p)
  | .all p => .all (LT.of p)
  | .com p => .com (LT.of p)
  | .an p q => .an (LT.of p) (LT.of q)
  | .or p q => .or (LT.of p) (LT.of q)
theorem of_d : ∀ p, (LT.of p).d = p.d
  | .fact i => rfl
  | .no p => by simp only [LT.of, LT.d, Pl.d, of_d p]
  | .holds m p => by simp only [LT.of, LT.d, Pl.d, of_d p]
  | .may m p => by simp only [LT.of, LT.d, Pl.d, of_d p]
  | .all p => by simp only [LT.of, LT.d, Pl.d, of_d p]
  | .com p => by simp only [LT.of, LT.d, Pl.d, of_d p]
  | .an p q => by simp only [LT.of, LT.d, Pl.d, of_d p, of_d q]
  | .or p q => by simp only [LT.of, LT.d, Pl.d, of_d p, of_d q]
theorem of_deep : ∀ p, (LT.of p).deep = p.deep
  | .fact i => rfl
  | .no p => by simp only [LT.of, LT.deep, Pl.deep, of_deep p]
  | .holds m p => by simp only [LT.of, LT.deep, Pl.deep, of_deep p]
  | .may m p => by simp only [LT.of, LT.deep, Pl.deep, of_deep p]
  | .all p => by simp only [LT.of, LT.deep, Pl.deep, of_deep p]
  | .com p => by simp only [LT.of, LT.deep, Pl.deep, of_deep p]
  | .an p q => by simp only [LT.of, LT.deep, Pl.deep, of_deep p, of_deep q]
  | .or p q => by simp only [LT.of, LT.deep, Pl.deep, of_deep p, of_deep q]
theorem of_wf : ∀ p, (LT.of p).wf
  | .fact i => trivial
  | .no p => of_wf p
  | .holds m p => of_wf p
  | .may m p => of_wf p
  | .all p => of_wf p
  | .com p => of_wf p
  | .an p q => ⟨of_wf p, of_wf q⟩
  | .or p q => ⟨of_wf p, of_wf q⟩
theorem of_sz (m f : Nat) : ∀ p : Pl, p.ok m f → (LT.of p).sz m f = some p.deep
  | .fact i, h => if_pos h
  | .no p, h => by simp only [LT.of, LT.sz, of_sz m f p h, Option.map_some, Pl.deep]
  | .holds k p, h => by simp only [LT.of, LT.sz, of_sz m f p h.2, Option.map_some, Pl.deep, if_pos h.1]
  | .may k p, h => by simp only [LT.of, LT.sz, of_sz m f p h.2, Option.map_some, Pl.deep, if_pos h.1]
  | .all p, h => by simp only [LT.of, LT.sz, of_sz m f p h, Option.map_some, Pl.deep]
  | .com p, h => by simp only [LT.of, LT.sz, of_sz m f p h, Option.map_some, Pl.deep]
  | .an p q, h => by simp only [LT.of, LT.sz, of_sz m f p h.1, of_sz m f q h.2, Pl.deep]
  | .or p q, h => by simp only [LT.of, LT.sz, of_sz m f p h.1, of_sz m f q h.2, Pl.deep]
theorem c_goodP (p : Pl) (hp : p.ok 3 4) (hd : p.deep ≤ 12) (n : Nat) (st : Sto) (h : Okk st) : Fs (n + 14) i_good_saying [.d (.int 3), .d (.int 4), .d p.d] st = .ok (.d (.bool true)) st := by
  have a := c_goodT (LT.of p) (of_wf p) (n + (12 - p.deep)) st h
  have g : goodT (LT.of p) = true := by
    unfold goodT
    rw [of_sz 3 4 p hp]
    exact decide_eq_true hd
  rw [of_d, of_deep, g, show n + (12 - p.deep) + p.deep + 2 = n + 14 by omega] at a
  exact a
theorem good_is {t : LT} (h : goodT t = true) : ∃ p, t.pl = some p ∧ p.ok 3 4 ∧ p.deep ≤ 12 := by
  unfold goodT at h
  split at h
  · cases h
  · rename_i a e
    obtain ⟨p, h1, h2, h3⟩ := LT.sz_pl 3 4 t a e
    exact ⟨p, h1, h2, by rw [← h3]; exact of_decide_eq_true h⟩
/-- the words of a saying -/
def Says (T : Str) (p : Pl) : Prop := p.ok 3 4 ∧ p.deep ≤ 12 ∧ Txt.split T " " = wds p
theorem c_read_p (n : Nat) (T : Str) (hT : T.length ≤ 400000) (st : Sto) (ok : Okk st) : Fs (n + 14) i_part_of [.d (wL (Txt.split T " ")), .d (.int 0), .d (.int 12)] st = .ok (.d (ansP (Txt.split T " ") (PP 12 (Txt.split T " ")))) st := by
  have pn := PyProof.Rows.split_le T " "
  have c := c_part (Txt.split T " ") (by omega) (fun w hw => by have := PyProof.Rows.part_short hw; omega) 12 n _ (List.suffix_refl _) st ok
  rw [Nat.sub_self] at c
  exact c
theorem c_read_good (n : Nat) {T : Str} {p : Pl} (hT : T.length ≤ 400000) (h : Says T p) (st : Sto) (ok : Okk st) : Fs (n + 15) i_read [.d (.str T)] st = .ok (.d p.d) st := by
  obtain ⟨hp, hd, hs⟩ := h
  have c := c_read_p n T hT st ok
  have ty : tyOf (.d (.str T)) st = some "str" := rfl
  have sp : ∀ a1 a2, eSplit (eVar 0) (eC (.str " ")) [some (.d (.str T)), a1, a2] st = .ok (.d (wL (Txt.split T " "))) st := fun a1 a2 => split_ok rfl (by decide +kernel) (by omega)
  have pp : PP 12 (wds p) = some (p.d, []) := by
    have := PP_of hp hd []
    rwa [List.append_nil] at this
  rw [hs] at c sp
  rw [pp] at c
  have c : Fs (n + 14) i_part_of [.d (wL (wds p)), .d (.int 0), .d (.int 12)] st = .ok (.d (.tuple [p.d, .int (((wds p).length - 0 : Nat) : Int)])) st := c
  have bl := w_len (wds p) st
  have g := c_goodP p hp hd n st ok
  have nn : vIsN (.d (.tuple [p.d, .int (((wds p).length - 0 : Nat) : Int)])) (.d .none) st = some (.d (.bool false), st) := rfl
  have i0 : vIx (.d (.tuple [p.d, .int (((wds p).length - 0 : Nat) : Int)])) (.d (.int 0)) st = some (.d p.d, st) := rfl
  have i1 : vIx (.d (.tuple [p.d, .int (((wds p).length - 0 : Nat) : Int)])) (.d (.int 1)) st = some (.d (.int (((wds p).length - 0 : Nat) : Int)), st) := rfl
  have lt : decide ((((wds p).length - 0 : Nat) : Int) < ((wds p).length : Nat)) = false := decide_eq_false (by omega)
  rw [e_read]
  simp! only [ssE_ok, m_read, ty, sp, c, nn, i0, i1, bl, lt, g, fin_d st ok]
theorem c_read_bad (n : Nat) {T : Str} (hT : T.length ≤ 400000) (h : ∀ p, ¬ Says T p) (st : Sto) (ok : Okk st) : Fs (n + 15) i_read [.d (.str T)] st = .exc ⟨11, none⟩ st := by
  have ok' : insOk st.length (st.take st.length) = true := by rw [List.take_length]; exact ok
  have c := c_read_p n T hT st ok
  have ty : tyOf (.d (.str T)) st = some "str" := rfl
  have sp : ∀ a1 a2, eSplit (eVar 0) (eC (.str " ")) [some (.d (.str T)), a1, a2] st = .ok (.d (wL (Txt.split T " "))) st := fun a1 a2 => split_ok rfl (by decide +kernel) (by omega)
  have ne := split_ne T " "
  obtain ⟨W, hW⟩ : ∃ W, W = Txt.split T " " := ⟨_, rfl⟩
  have h' : ∀ p : Pl, p.ok 3 4 → p.deep ≤ 12 → W ≠ wds p := fun p h1 h2 h3 => h p ⟨h1, h2, by rw [← hW]; exact h3⟩
  rw [← hW] at c sp ne
  rw [e_read]
  cases e : PP 12 W with
  | none =>
    rw [e] at c
    have c : Fs (n + 14) i_part_of [.d (wL W), .d (.int 0), .d (.int 12)] st = .ok (.d .none) st := c
    have nn : vIsN (.d .none) (.d .none) st = some (.d (.bool true), st) := rfl
    simp! only [ssE_ok, m_read, ty, sp, c, nn]
    rw [fin0_ex ok', List.take_length]
  | some x =>
    obtain ⟨t, r⟩ := x
    rw [e] at c
    have c : Fs (n + 14) i_part_of [.d (wL W), .d (.int 0), .d (.int 12)] st = .ok (.d (.tuple [t, .int ((W.length - r.length : Nat) : Int)])) st := c
    have nn : vIsN (.d (.tuple [t, .int ((W.length - r.length : Nat) : Int)])) (.d .none) st = some (.d (.bool false), st) := rfl
    have i0 : vIx (.d (.tuple [t, .int ((W.length - r.length : Nat) : Int)])) (.d (.int 0)) st = some (.d t, st) := rfl
    have i1 : vIx (.d (.tuple [t, .int ((W.length - r.length : Nat) : Int)])) (.d (.int 1)) st = some (.d (.int ((W.length - r.length : Nat) : Int)), st) := rfl
    have bl := w_len W st
    by_cases q : ((W.length - r.length : Nat) : Int) < (W.length : Nat)
    · have lt : decide (((W.length - r.length : Nat) : Int) < (W.length : Nat)) = true := decide_eq_true q
      simp! only [ssE_ok, m_read, ty, sp, c, nn, i1, bl, lt]
      rw [fin0_ex ok', List.take_length]
    · have lt : decide (((W.length - r.length : Nat) : Int) < (W.length : Nat)) = false := decide_eq_false q
      have wl : 1 ≤ W.length := List.length_pos_iff.mpr ne
      have rl : r.length = 0 := by omega
      have re : r = [] := List.length_eq_zero_iff.mp rl
      obtain ⟨τ, rfl, hd, hw, hp⟩ := PP_is e
      have g := c_goodT τ hw (n + (12 - τ.deep)) st ok
      rw [show n + (12 - τ.deep) + τ.deep + 2 = n + 14 by omega] at g
      have gf : goodT τ = false := by
        cases gg : goodT τ with
        | false => rfl
        | true =>
          obtain ⟨p, h1, h2, h3⟩ := good_is gg
          exact absurd (by have := hp p h1; rwa [re, List.append_nil] at this) (h' p h2 h3)
      rw [gf] at g
      simp! only [ssE_ok, m_read, ty, sp, c, nn, i0, i1, bl, lt, g]
      rw [fin0_ex ok', List.take_length]
theorem pick30 {e : Exn} {st : Sto} (h : insOk st.length st = true) : hPick [(0, hWh)] e st = some (some (whichD e.cls)) := by simp [hPick, isSub, hWh, h]
def refD : D := .tuple [.str "refused", .int 10]
theorem ref_pl : refD.plain = true ∧ refD.depth ≤ 1 := pl_tup fun x hx => by
  simp only [List.mem_cons, List.not_mem_nil, or_false] at hx
  rcases hx with rfl | rfl
  · exact ⟨rfl, Nat.le_refl _⟩
  · exact pl_int _
theorem c_ask_good (n : Nat) {T : Str} {p : Pl} (hT : T.length ≤ 400000) (h : Says T p) (st : Sto) (ok : Okk st) : Fs (n + 16) i__law_ask [.d (.str T)] st = .ok (.d p.d) st := by
  have r := c_read_good n hT h st ok
  rw [e__law_ask]
  simp! only [ssE_ok, m__law_ask, r, fin_d st ok]
theorem c_ask_bad (n : Nat) {T : Str} (hT : T.length ≤ 400000) (h : ∀ p, ¬ Says T p) (st : Sto) (ok : Okk st) : Fs (n + 16) i__law_ask [.d (.str T)] st = .ok (.d refD) st := by
  have z : insOk st.length st = true := ok
  have r := c_read_bad n hT h st ok
  rw [e__law_ask]
  simp! only [ssE_ok, m__law_ask, r]
  rw [tryS_ex (x := whichD 11) (by decide) (by simp) (pick30 z)]
  simp! only [ssE_ok, fin_d st ok]
  rfl
/-- how the law's own reading ends -/
theorem law_parsed (n : Nat) {T : Str} (hl : (Txt.split T " ").length ≤ 60) (st : Sto) (ok : Okk st) :
    (∃ p, Says T p ∧ Fs (n + 63) i__law_parse [.d (wL (Txt.split T " "))] st = .ok (.d (.tuple [p.d, wL []])) st ∧ Fs (n + 63) i_is_saying [.d (.int 3), .d (.int 4), .d p.d] st = .ok (.d (.bool true)) st) ∨
    ((∀ p, ¬ Says T p) ∧ (Fs (n + 63) i__law_parse [.d (wL (Txt.split T " "))] st = .ok (.d .none) st ∨ ∃ t r, Fs (n + 63) i__law_parse [.d (wL (Txt.split T " "))] st = .ok (.d (.tuple [t, wL r])) st ∧ (r ≠ [] ∨ r = [] ∧ Fs (n + 63) i_is_saying [.d (.int 3), .d (.int 4), .d t] st = .ok (.d (.bool false)) st))) := by
  obtain ⟨W, hW⟩ : ∃ W, W = Txt.split T " " := ⟨_, rfl⟩
  rw [← hW] at hl ⊢
  have c : Fs (n + 63) i__law_parse [.d (wL W)] st = .ok (.d (ansL (PL 60 W))) st := c_lparse 60 (n + 2) W hl st ok
  by_cases S : ∃ p, Says T p
  · obtain ⟨p, S⟩ := S
    refine .inl ⟨p, S, ?_, ?_⟩
    · obtain ⟨hp, hd, hs⟩ := S
      have pp : PL 60 (wds p) = some (p.d, []) := by
        have := PL_of hp (k := 60) (by omega) []
        rwa [List.append_nil] at this
      rw [hW, hs] at c ⊢
      rw [pp] at c
      exact c
    · have g := c_goodP p S.1 S.2.1 (n + 48) st ok
      rw [show n + 63 = (n + 48 + 14) + 1 by omega, e_is_saying]
      simp! only [ssE_ok, m_is_saying, g, fin_d st ok]
  · refine .inr ⟨fun p hp => S ⟨p, hp⟩, ?_⟩
    cases e : PL 60 W with
    | none => rw [e] at c; exact .inl c
    | some x =>
      obtain ⟨t, r⟩ := x
      rw [e] at c
      refine .inr ⟨t, r, c, ?_⟩
      by_cases hr : r = []
      · refine .inr ⟨hr, ?_⟩
        obtain ⟨τ, rfl, hd, hw, hp⟩ := PL_is e
        have g := c_goodT τ hw (n + (60 - τ.deep)) st ok
        rw [show n + (60 - τ.deep) + τ.deep + 2 = n + 62 by omega] at g
        have gf : goodT τ = false := by
          cases gg : goodT τ with
          | false => rfl
          | true =>
            obtain ⟨p, h1, h2, h3⟩ := good_is gg
            exact absurd ⟨p, h2, h3, by have := hp p h1; rw [hr, List.append_nil] at this; rw [← hW]; exact this⟩ S
        rw [gf] at g
        rw [show n + 63 = (n + 62) + 1 by omega, e_is_saying]
        simp! only [ssE_ok, m_is_saying, g, fin_d st ok]
      · exact .inl hr
end Lw
end

section
set_option maxRecDepth 100000
set_option maxHeartbeats 4000000
namespace Lw
open PySem PySem.Spec L2 Mi
theorem c_pick (n : Nat) (ns : List Int) (ds : List D) (xs : List D) (rest : Sto) (h : Okk (.lst xs :: rest)) (hn : ns.length ≤ 63) (hd : ds ≠ []) (hx : xs.length < 1000000) : ∃ v ∈ ds,
    Fs (n + 4) i__law_pick [.s ns, .r 0, .d (.list ds)] (.lst xs :: rest) = .ok (.d v) (.lst (xs ++ [.int 0]) :: rest) := by
  rw [e__law_pick]
  have hl : 0 < ds.length := List.length_pos_iff.mpr hd
  obtain ⟨v, h1, h2, hv⟩ := c_draw n ns (ds.length : Nat) xs rest h hn (by omega) hx
  have h' : Okk (.lst (xs ++ [.int 0]) :: rest) := h
  have hv2 : v.toNat < ds.length := by omega
  refine ⟨ds[v.toNat], List.getElem_mem _, ?_⟩
  have e := fin_d (.lst (xs ++ [.int 0]) :: rest) h' (ds[v.toNat])
  have a1 : atI ds v = some ds[v.toNat] := by
    have := atI_nat (xs := ds) (j := v.toNat) (v := ds[v.toNat]) (List.getElem?_eq_getElem hv2)
    rw [show ((v.toNat : Nat) : Int) = v by omega] at this
    exact this
  simp [m__law_pick, bLen, lenOf, sqOf, lsOf, hv, vIx, a1]
  simpa using e
end Lw
end

section
set_option maxRecDepth 100000
set_option maxHeartbeats 4000000
namespace Lw
open PySem PySem.Spec L2 Mi
theorem c_plain (ns : List Int) (minds facts : Nat) (hn : ns.length ≤ 63) (hm : 0 < minds) (hf : 0 < facts) : ∀ (dp : Nat) (n : Nat) (xs : List D) (rest : Sto), Okk (.lst xs :: rest) → xs.length + 4 * 3 ^ dp < 1000000 →
    ∃ (p : Pl) (xs' : List D), p.ok minds facts ∧ p.deep ≤ dp + 1 ∧ xs'.length ≤ xs.length + 4 * 3 ^ dp ∧
      Fs (n + dp + 5) i__law_plain [.s ns, .r 0, .d (.int (minds : Nat)), .d (.int (facts : Nat)), .d (.int ((dp + 1 : Nat) : Int))] (.lst xs :: rest) = .ok (.d p.d) (.lst xs' :: rest) := by
  intro dp
  induction dp with
  | zero =>
    intro n xs rest h hx
    simp at hx
    obtain ⟨w, w1, w2, hw⟩ := c_draw (n + 1) ns 9 xs rest h hn (by decide) (by omega)
    have h' : Okk (.lst (xs ++ [.int 0]) :: rest) := h
    obtain ⟨f, f1, f2, hf'⟩ := c_draw (n + 1) ns (facts : Nat) (xs ++ [.int 0]) rest h' hn (by omega) (by simp; omega)
    have h'' : Okk (.lst ((xs ++ [.int 0]) ++ [.int 0]) :: rest) := h
    refine ⟨.fact f.toNat, (xs ++ [.int 0]) ++ [.int 0], by simp [Pl.ok]; omega, by simp [Pl.deep], by simp, ?_⟩
    rw [show n + 0 + 5 = (n + 4) + 1 by omega, e__law_plain]
    have e := fin_d _ h'' (Pl.fact f.toNat).d
    have ef : ((f.toNat : Nat) : Int) = f := by omega
    simp only [Pl.d, ef] at e
    simp [m__law_plain, hw, hf', vEq, datOf, fits, PyData.plain, PyData.eqv, PyData.depth, small, Pl.d, ef]
    simpa using e
  | succ dp ih =>
    intro n xs rest h hx
    have pw : 4 * 3 ^ (dp + 1) = 12 * 3 ^ dp := by rw [Nat.pow_succ]; omega
    have pp : 1 ≤ 3 ^ dp := Nat.one_le_pow _ _ (by decide)
    rw [pw] at hx ⊢
    obtain ⟨w, w1, w2, hw⟩ := c_draw (n + dp + 2) ns 9 xs rest h hn (by decide) (by omega)
    have h1 : Okk (.lst (xs ++ [.int 0]) :: rest) := h
    have d1 : PyData.eqv (.int ((dp : Int) + 1 + 1)) (.int 1) = false := by
      have : ¬ ((dp : Int) + 1 + 1 = 1) := by omega
      simp [PyData.eqv, this]
    have ft : ∀ i j : Int, fits (.int i) (.int j) = true := fun i j => by simp [fits, PyData.plain, PyData.depth]
    have le : n + (dp + 1) + 5 = (n + dp + 5) + 1 := by omega
    by_cases hw0 : w = 0
    · subst hw0
      obtain ⟨f, f1, f2, hf'⟩ := c_draw (n + dp + 2) ns (facts : Nat) (xs ++ [.int 0]) rest h1 hn (by omega) (by simp; omega)
      have h2 : Okk (.lst ((xs ++ [.int 0]) ++ [.int 0]) :: rest) := h
      refine ⟨.fact f.toNat, (xs ++ [.int 0]) ++ [.int 0], by simp [Pl.ok]; omega, by simp [Pl.deep], by simp; omega, ?_⟩
      rw [le, e__law_plain]
      have e := fin_d _ h2 (Pl.fact f.toNat).d
      have ef : ((f.toNat : Nat) : Int) = f := by omega
      simp only [Pl.d, ef] at e
      have d0 : PyData.eqv (.int 0) (.int 0) = true := rfl
      simp [m__law_plain, hw, hf', vEq, datOf, ft, d1, d0, small, Pl.d, ef]
      simpa using e
    · have dw : PyData.eqv (.int w) (.int 0) = false := by simp [PyData.eqv, hw0]
      obtain ⟨p, xs2, p1, p2, p3, hp⟩ := ih n (xs ++ [.int 0]) rest h1 (by simp; omega)
      simp at p3
      have hp' : Fs (n + dp + 5) i__law_plain [.s ns, .r 0, .d (.int (minds : Nat)), .d (.int (facts : Nat)), .d (.int ((dp : Int) + 1))] (.lst (xs ++ [.int 0]) :: rest) = .ok (.d p.d) (.lst xs2 :: rest) := by
        have z := hp
        push_cast at z
        exact z
      have h2 : Okk (.lst xs2 :: rest) := h
      by_cases w3 : w < 3
      · refine ⟨.no p, xs2, p1, by simp [Pl.deep]; omega, by omega, ?_⟩
        rw [le, e__law_plain]
        have e := fin_d _ h2 (Pl.no p).d
        simp only [Pl.d] at e
        simp [m__law_plain, hw, vEq, datOf, ft, d1, dw, pur2, dI, iSub, hp', iLt, w3, small, Pl.d]
        simpa using e
      · by_cases w6 : w < 6
        · obtain ⟨v, hv, hpick⟩ := c_pick (n + dp + 1) ns [.str "holds", .str "holds", .str "may"] xs2 rest h2 hn (by simp) (by omega)
          have h3 : Okk (.lst (xs2 ++ [.int 0]) :: rest) := h
          obtain ⟨k, k1, k2, hk⟩ := c_draw (n + dp + 2) ns (minds : Nat) (xs2 ++ [.int 0]) rest h3 hn (by omega) (by simp; omega)
          have h4 : Okk (.lst ((xs2 ++ [.int 0]) ++ [.int 0]) :: rest) := h
          have ek : ((k.toNat : Nat) : Int) = k := by omega
          have main : Fs ((n + dp + 5) + 1) i__law_plain [.s ns, .r 0, .d (.int (minds : Nat)), .d (.int (facts : Nat)), .d (.int ((dp + 1 + 1 : Nat) : Int))] (.lst xs :: rest) = .ok (.d (.tuple [v, .int k, p.d])) (.lst ((xs2 ++ [.int 0]) ++ [.int 0]) :: rest) := by
            rw [e__law_plain]
            have e := fin_d _ h4 (.tuple [v, .int k, p.d])
            simp [m__law_plain, hw, vEq, datOf, ft, d1, dw, pur2, dI, iSub, hp', iLt, w3, w6, small, hpick, hk]
            simpa using e
          have hv' : v = .str "holds" ∨ v = .str "may" := by simp at hv; exact hv
          rcases hv' with rfl | rfl
          · exact ⟨.holds k.toNat p, (xs2 ++ [.int 0]) ++ [.int 0], ⟨by omega, p1⟩, by simp [Pl.deep]; omega, by simp; omega, by rw [le, main]; simp [Pl.d, ek]⟩
          · exact ⟨.may k.toNat p, (xs2 ++ [.int 0]) ++ [.int 0], ⟨by omega, p1⟩, by simp [Pl.deep]; omega, by simp; omega, by rw [le, main]; simp [Pl.d, ek]⟩
        · by_cases e6 : w = 6
          · subst e6
            obtain ⟨v, hv, hpick⟩ := c_pick (n + dp + 1) ns [.str "all", .str "common"] xs2 rest h2 hn (by simp) (by omega)
            have h3 : Okk (.lst (xs2 ++ [.int 0]) :: rest) := h
            have main : Fs ((n + dp + 5) + 1) i__law_plain [.s ns, .r 0, .d (.int (minds : Nat)), .d (.int (facts : Nat)), .d (.int ((dp + 1 + 1 : Nat) : Int))] (.lst xs :: rest) = .ok (.d (.tuple [v, p.d])) (.lst (xs2 ++ [.int 0]) :: rest) := by
              rw [e__law_plain]
              have e := fin_d _ h3 (.tuple [v, p.d])
              have d6 : PyData.eqv (.int 6) (.int 6) = true := rfl
              simp [m__law_plain, hw, vEq, datOf, ft, d1, dw, d6, pur2, dI, iSub, hp', iLt, small, hpick]
              simpa using e
            have hv' : v = .str "all" ∨ v = .str "common" := by simp at hv; exact hv
            rcases hv' with rfl | rfl
            · exact ⟨.all p, xs2 ++ [.int 0], p1, by simp [Pl.deep]; omega, by simp; omega, by rw [le, main]; simp [Pl.d]⟩
            · exact ⟨.com p, xs2 ++ [.int 0], p1, by simp [Pl.deep]; omega, by simp; omega, by rw [le, main]; simp [Pl.d]⟩
          · have dw6 : PyData.eqv (.int w) (.int 6) = false := by simp [PyData.eqv, e6]
            obtain ⟨v, hv, hpick⟩ := c_pick (n + dp + 1) ns [.str "and", .str "or"] xs2 rest h2 hn (by simp) (by omega)
            have h3 : Okk (.lst (xs2 ++ [.int 0]) :: rest) := h
            obtain ⟨q, xs3, q1, q2, q3, hq⟩ := ih n (xs2 ++ [.int 0]) rest h3 (by simp; omega)
            simp at q3
            have hq' : Fs (n + dp + 5) i__law_plain [.s ns, .r 0, .d (.int (minds : Nat)), .d (.int (facts : Nat)), .d (.int ((dp : Int) + 1))] (.lst (xs2 ++ [.int 0]) :: rest) = .ok (.d q.d) (.lst xs3 :: rest) := by
              have z := hq
              push_cast at z
              exact z
            have h4 : Okk (.lst xs3 :: rest) := h
            have main : Fs ((n + dp + 5) + 1) i__law_plain [.s ns, .r 0, .d (.int (minds : Nat)), .d (.int (facts : Nat)), .d (.int ((dp + 1 + 1 : Nat) : Int))] (.lst xs :: rest) = .ok (.d (.tuple [v, p.d, q.d])) (.lst xs3 :: rest) := by
              rw [e__law_plain]
              have e := fin_d _ h4 (.tuple [v, p.d, q.d])
              simp [m__law_plain, hw, vEq, datOf, ft, d1, dw, dw6, pur2, dI, iSub, hp', iLt, w3, w6, small, hpick, hq']
              simpa using e
            have hv' : v = .str "and" ∨ v = .str "or" := by simp at hv; exact hv
            rcases hv' with rfl | rfl
            · exact ⟨.an p q, xs3, ⟨p1, q1⟩, by simp [Pl.deep]; omega, by omega, by rw [le, main]; simp [Pl.d]⟩
            · exact ⟨.or p q, xs3, ⟨p1, q1⟩, by simp [Pl.deep]; omega, by omega, by rw [le, main]; simp [Pl.d]⟩
end Lw
end

section
set_option maxRecDepth 100000
set_option maxHeartbeats 4000000
namespace Lw
open PySem PySem.Spec L2 Mi
abbrev bd_law_0 (F : Nat → FN) : ES := (sSeq (sSet 5 (eSplitR (eVar 3) (eC (.str " ")))) (sSeq (sSet 6 (eCl 3 (F 17) (aCons (eVar 0) (aCons (eVar 1) (aCons (eCB bLen (aCons (eVar 5) aNil)) aNil))))) (sSeq (sSet 7 (eLst (aCons (eC (.str "not")) (aCons (eC (.str "and")) (aCons (eC (.str "fact")) (aCons (eC (.str "0")) (aCons (eC (.str "3")) (aCons (eC (.str "4")) (aCons (eC (.str "fact 1")) (aCons (eC (.str "all")) (aCons (eC (.str "holds 2")) (aCons (eC (.str "know")) (aCons (eC (.str "")) (aCons (eC (.str "may 3")) (aCons (eC (.str "02")) aNil))))))))))))))) (sSeq (sSet 8 (eCl 3 (F 18) (aCons (eVar 0) (aCons (eVar 1) (aCons (eVar 7) aNil))))) (sSeq (sSlPut (eVar 5) (oSome (eVar 6)) (oSome (eOp vAdd (eVar 6) (eCl 3 (F 17) (aCons (eVar 0) (aCons (eVar 1) (aCons (eC (.int 2)) aNil)))))) (eLst (aCons (eVar 8) aNil))) (sSeq (sSet 9 (eJoin (eC (.str " ")) (eVar 5))) (sSeq (sSet 10 (eCl 1 (F 23) (aCons (eSplit (eVar 9) (eC (.str " "))) aNil))) (sSeq (sSet 11 (eAnd (eOp vNotN (eVar 10) (eC .none)) (eAnd (eOp vEq (eOp vIx (eVar 10) (eC (.int 1))) (eLst aNil)) (eCl 3 (F 9) (aCons (eC (.int 3)) (aCons (eC (.int 4)) (aCons (eOp vIx (eVar 10) (eC (.int 0))) aNil))))))) (sIf (eTst (eOp vNe (eCl 1 (F 21) (aCons (eVar 9) aNil)) (eIf (eTst (eVar 11)) (eOp vIx (eVar 10) (eC (.int 0))) (eTup (aCons (eC (.str "refused")) (aCons (eC (.int 10)) aNil)))))) (sRet (eC (.bool false))) sNx)))))))))
/-! ### the law -/
theorem c_pickL (n : Nat) (ns : List Int) (ds : List D) (xs : List D) (rest : Sto) (h : Okk (.lst xs :: rest)) (hn : ns.length ≤ 63) (hd : ds ≠ []) (hx : xs.length < 1000000) : ∃ v ∈ ds,
    Fs (n + 4) i__law_pick [.s ns, .r 0, .d (.list ds)] (.lst xs :: rest) = .ok (.d v) (.lst (xs ++ [.int 0]) :: rest) := by
  rw [e__law_pick]
  have hl : 0 < ds.length := List.length_pos_iff.mpr hd
  obtain ⟨v, h1, h2, hv⟩ := c_draw n ns (ds.length : Nat) xs rest h hn (by omega) hx
  have h' : Okk (.lst (xs ++ [.int 0]) :: rest) := h
  have hv2 : v.toNat < ds.length := by omega
  refine ⟨ds[v.toNat], List.getElem_mem _, ?_⟩
  have e := fin_d (.lst (xs ++ [.int 0]) :: rest) h' (ds[v.toNat])
  have a1 : atI ds v = some ds[v.toNat] := by
    have := atI_nat (xs := ds) (j := v.toNat) (v := ds[v.toNat]) (List.getElem?_eq_getElem hv2)
    rw [show ((v.toNat : Nat) : Int) = v by omega] at this
    exact this
  simp [m__law_pick, bLen, lenOf, sqOf, lsOf, hv, vIx, a1]
  simpa using e
theorem c_shown (p : Pl) (hp : p.ok 3 4) (hd : p.deep ≤ 12) (n : Nat) (st : Sto) (ok : Okk st) : Fs (n + 15) i_shown [.d p.d] st = .ok (.d (.str (tx p))) st := by
  have g := c_goodP p hp hd n st ok
  have z := c_sizeT 3 4 st ok (LT.of p) (of_wf p) (n + (13 - p.deep))
  rw [of_sz 3 4 p hp, of_d, of_deep, show n + (13 - p.deep) + p.deep + 1 = n + 14 by omega] at z
  have z : Fs (n + 14) i_size_of [.d (.int 3), .d (.int 4), .d p.d] st = .ok (.d (szD p.deep 0)) st := z
  have t := c_stext st ok p hp hd (n + (14 - p.deep))
  rw [show n + (14 - p.deep) + p.deep = n + 14 by omega] at t
  have i1 : vIx (.d (szD p.deep 0)) (.d (.int 1)) st = some (.d (.int ((0 : Nat) : Int)), st) := rfl
  have gt : decide (((0 : Nat) : Int) > 0) = false := by decide
  rw [e_shown]
  simp! only [ssE_ok, m_shown, g, z, i1, gt, t, fin_d st ok]
/-! words without spaces -/
theorem split_J {L : List Str} (h : L ≠ []) (hs : ∀ q ∈ L, (32 : Nat) ∉ q.cps.toList) : Txt.split (J L) " " = L := by
  cases L with
  | nil => exact absurd rfl h
  | cons p r =>
    rw [← J_eq]
    exact split_join sp1 kd1 p r hs
def wOk (w : Str) : Bool := !(w.cps.toList.contains 32) && (!(w == "") && decide (w.length ≤ 6))
theorem wOk_is {w : Str} (h : wOk w = true) : (32 : Nat) ∉ w.cps.toList ∧ w ≠ "" ∧ w.length ≤ 6 := by
  unfold wOk at h
  rw [Bool.and_eq_true, Bool.and_eq_true, Bool.not_eq_true', Bool.not_eq_true', decide_eq_true_eq] at h
  obtain ⟨h1, h2, h3⟩ := h
  refine ⟨fun q => ?_, fun q => ?_, h3⟩
  · rw [List.contains_iff_mem.mpr q] at h1; cases h1
  · rw [q] at h2; revert h2; decide +kernel
theorem wds_ok : ∀ (p : Pl), p.ok 3 4 → ∀ w ∈ wds p, wOk w = true := by
  have hi : ∀ i : Nat, i < 4 → wOk (iT (i : Nat)) = true := by decide +kernel
  have k0 : wOk "fact" = true := by decide +kernel
  have k1 : wOk "not" = true := by decide +kernel
  have k2 : wOk "and" = true := by decide +kernel
  have k3 : wOk "or" = true := by decide +kernel
  have k4 : wOk "holds" = true := by decide +kernel
  have k5 : wOk "may" = true := by decide +kernel
  have k6 : wOk "all" = true := by decide +kernel
  have k7 : wOk "common" = true := by decide +kernel
  intro p
  induction p with
  | fact i =>
    intro h w hw
    simp only [wds, List.mem_cons, List.not_mem_nil, or_false] at hw
    rcases hw with rfl | rfl
    · exact k0
    · exact hi i h
  | no p ih =>
    intro h w hw
    rcases List.mem_cons.mp hw with rfl | hw
    · exact k1
    · exact ih h w hw
  | all p ih =>
    intro h w hw
    rcases List.mem_cons.mp hw with rfl | hw
    · exact k6
    · exact ih h w hw
  | com p ih =>
    intro h w hw
    rcases List.mem_cons.mp hw with rfl | hw
    · exact k7
    · exact ih h w hw
  | holds m p ih =>
    intro h w hw
    rcases List.mem_cons.mp hw with rfl | hw
    · exact k4
    · rcases List.mem_cons.mp hw with rfl | hw
      · exact hi m (by have : m < 3 := h.1; omega)
      · exact ih h.2 w hw
  | may m p ih =>
    intro h w hw
    rcases List.mem_cons.mp hw with rfl | hw
    · exact k5
    · rcases List.mem_cons.mp hw with rfl | hw
      · exact hi m (by have : m < 3 := h.1; omega)
      · exact ih h.2 w hw
  | an p q ih ih2 =>
    intro h w hw
    rcases List.mem_cons.mp hw with rfl | hw
    · exact k2
    · rcases List.mem_append.mp hw with hw | hw
      · exact ih h.1 w hw
      · exact ih2 h.2 w hw
  | or p q ih ih2 =>
    intro h w hw
    rcases List.mem_cons.mp hw with rfl | hw
    · exact k3
    · rcases List.mem_append.mp hw with hw | hw
      · exact ih h.1 w hw
      · exact ih2 h.2 w hw
theorem wds_len : ∀ (p : Pl), 2 * ((wds p).length + 1) ≤ 3 * 2 ^ p.deep := by
  intro p
  have one : ∀ k : Nat, 1 ≤ 2 ^ k := fun k => Nat.one_le_two_pow
  induction p with
  | fact i => show 2 * (2 + 1) ≤ 3 * 2 ^ 1; omega
  | no p ih =>
    show 2 * ((wds p).length + 1 + 1) ≤ 3 * 2 ^ (p.deep + 1)
    have := one p.deep
    rw [Nat.pow_succ]; omega
  | all p ih =>
    show 2 * ((wds p).length + 1 + 1) ≤ 3 * 2 ^ (p.deep + 1)
    have := one p.deep
    rw [Nat.pow_succ]; omega
  | com p ih =>
    show 2 * ((wds p).length + 1 + 1) ≤ 3 * 2 ^ (p.deep + 1)
    have := one p.deep
    rw [Nat.pow_succ]; omega
  | holds m p ih =>
    show 2 * ((wds p).length + 1 + 1 + 1) ≤ 3 * 2 ^ (p.deep + 1)
    have : 2 ≤ 2 ^ p.deep := by
      have : 1 ≤ p.deep := by cases p <;> simp only [Pl.deep] <;> omega
      calc 2 = 2 ^ 1 := rfl
        _ ≤ 2 ^ p.deep := Nat.pow_le_pow_right (by decide) this
    rw [Nat.pow_succ]; omega
  | may m p ih =>
    show 2 * ((wds p).length + 1 + 1 + 1) ≤ 3 * 2 ^ (p.deep + 1)
    have : 2 ≤ 2 ^ p.deep := by
      have : 1 ≤ p.deep := by cases p <;> simp only [Pl.deep] <;> omega
      calc 2 = 2 ^ 1 := rfl
        _ ≤ 2 ^ p.deep := Nat.pow_le_pow_right (by decide) this
    rw [Nat.pow_succ]; omega
  | an p q ih ih2 =>
    have e : (wds (.an p q)).length = (wds p).length + (wds q).length + 1 := by simp [wds]
    rw [e]
    show _ ≤ 3 * 2 ^ (max p.deep q.deep + 1)
    have a : 2 ^ p.deep ≤ 2 ^ max p.deep q.deep := Nat.pow_le_pow_right (by decide) (Nat.le_max_left _ _)
    have b : 2 ^ q.deep ≤ 2 ^ max p.deep q.deep := Nat.pow_le_pow_right (by decide) (Nat.le_max_right _ _)
    rw [Nat.pow_succ]; omega
  | or p q ih ih2 =>
    have e : (wds (.or p q)).length = (wds p).length + (wds q).length + 1 := by simp [wds]
    rw [e]
    show _ ≤ 3 * 2 ^ (max p.deep q.deep + 1)
    have a : 2 ^ p.deep ≤ 2 ^ max p.deep q.deep := Nat.pow_le_pow_right (by decide) (Nat.le_max_left _ _)
    have b : 2 ^ q.deep ≤ 2 ^ max p.deep q.deep := Nat.pow_le_pow_right (by decide) (Nat.le_max_right _ _)
    rw [Nat.pow_succ]; omega
theorem says_tx {p : Pl} (hp : p.ok 3 4) (hd : p.deep ≤ 12) : Says (tx p) p := ⟨hp, hd, split_J (wds_ne p) fun q hq => (wOk_is (wds_ok p hp q hq)).1⟩
def news : List Str := ["not", "and", "fact", "0", "3", "4", "fact 1", "all", "holds 2", "know", "", "may 3", "02"]
theorem news_ok : ∀ v ∈ news, v.length ≤ 20 ∧ (Txt.split v " ").length ≤ 2 ∧ ∀ w ∈ Txt.split v " ", (32 : Nat) ∉ w.cps.toList := by
  have : (news.all fun v => decide (v.length ≤ 20) && (decide ((Txt.split v " ").length ≤ 2) && (Txt.split v " ").all fun w => !(w.cps.toList.contains 32))) = true := by decide +kernel
  intro v hv
  have q := List.all_eq_true.mp this v hv
  rw [Bool.and_eq_true, Bool.and_eq_true, decide_eq_true_eq, decide_eq_true_eq] at q
  refine ⟨q.1, q.2.1, fun w hw h => ?_⟩
  have := List.all_eq_true.mp q.2.2 w hw
  rw [List.contains_iff_mem.mpr h] at this
  cases this
theorem okC (P : Sto) (hP : noIns P = true) (xs : List D) : Okk (.lst xs :: P) := okk_app [.lst xs] rfl P hP
theorem noI_app : ∀ (P : Sto), noIns P = true → ∀ l : List D, noIns (P ++ [.lst l]) = true
  | [], _, l => rfl
  | x :: P, h, l => by
    cases x <;> first | exact noI_app P h l | cases h
theorem spoil (n : Nat) (ns : List Int) (hn : ns.length ≤ 63) (p : Pl) (hp : p.ok 3 4) (hd : p.deep ≤ 5) (P : Sto) (hP : noIns P = true) (a2 a4 a5 a6 a7 a8 a9 a10 a11 : Option Val) (xs : List D) (hx : xs.length < 900000) : ∃ b5 b6 b7 b8 b9 b10 b11 xs' l, xs'.length ≤ xs.length + 3 ∧
    bd_law_0 (Fs (n + 64)) [some (.s ns), some (.r 0), a2, some (.d (.str (tx p))), a4, a5, a6, a7, a8, a9, a10, a11] (.lst xs :: P) = .ok (.nx [some (.s ns), some (.r 0), a2, some (.d (.str (tx p))), a4, b5, b6, b7, b8, b9, b10, b11]) (.lst xs' :: (P ++ [.lst l])) := by
  obtain ⟨W, hW⟩ : ∃ W, W = wds p := ⟨_, rfl⟩
  have Wn : W ≠ [] := by rw [hW]; exact wds_ne p
  have W47 : W.length ≤ 47 := by
    have a := wds_len p
    have b : 2 ^ p.deep ≤ 2 ^ 5 := Nat.pow_le_pow_right (by decide) hd
    rw [hW]; omega
  have Wok : ∀ w ∈ W, (32 : Nat) ∉ w.cps.toList ∧ w ≠ "" ∧ w.length ≤ 6 := fun w hw => wOk_is (wds_ok p hp w (by rw [← hW]; exact hw))
  have T5 : (tx p).length ≤ 640 := by
    have a := tx_len 3 4 (by decide) (by decide) p hp
    have b : 2 ^ p.deep ≤ 2 ^ 5 := Nat.pow_le_pow_right (by decide) hd
    omega
  have sT : Txt.split (tx p) " " = W := by rw [hW]; exact (says_tx hp (by omega)).2.2
  have W1 : 1 ≤ W.length := List.length_pos_iff.mpr Wn
  obtain ⟨d1, p1, q1, r1⟩ := c_draw (n + 61) ns (W.length : Nat) xs (P ++ [.lst (W.map .str)]) (okC _ (noI_app P hP _) _) hn (by omega) (by omega)
  obtain ⟨at', rfl⟩ : ∃ k : Nat, d1 = k := ⟨d1.toNat, by omega⟩
  obtain ⟨v, hv, r2⟩ := c_pickL (n + 60) ns (news.map PyData.str) (xs ++ [.int 0]) (P ++ [.lst (W.map .str)]) (okC _ (noI_app P hP _) _) hn (by simp [news]) (by simp; omega)
  obtain ⟨s, hs, rfl⟩ := List.mem_map.mp hv
  obtain ⟨sl, sn, sw⟩ := news_ok s hs
  obtain ⟨d3, p3, q3, r3⟩ := c_draw (n + 61) ns 2 (xs ++ [.int 0] ++ [.int 0]) (P ++ [.lst (W.map .str)]) (okC _ (noI_app P hP _) _) hn (by decide) (by simp; omega)
  obtain ⟨c, rfl⟩ : ∃ k : Nat, d3 = k := ⟨d3.toNat, by omega⟩
  obtain ⟨ys, hys⟩ : ∃ ys, ys = xs ++ [PyData.int 0] ++ [.int 0] ++ [.int 0] := ⟨_, rfl⟩
  have yl : ys.length = xs.length + 3 := by rw [hys]; simp
  rw [← hys] at r3
  -- the words behind it
  obtain ⟨W', hW'⟩ : ∃ W', W' = W.take at' ++ s :: W.drop (at' + c) := ⟨_, rfl⟩
  obtain ⟨N, hN⟩ : ∃ N, N = Txt.split s " " := ⟨_, rfl⟩
  have Nn : N ≠ [] := by rw [hN]; exact split_ne s " "
  have NJ : J N = s := by rw [hN, ← J_eq]; exact join_split' s " "
  obtain ⟨S, hS⟩ : ∃ S, S = J W' := ⟨_, rfl⟩
  have S2 : S = J (W.take at' ++ (N ++ W.drop (at' + c))) := by rw [hS, hW', ← J_flat N Nn, NJ]
  have sS : Txt.split S " " = W.take at' ++ (N ++ W.drop (at' + c)) := by
    rw [S2]
    refine split_J (by simp [Nn]) fun q hq => ?_
    rcases List.mem_append.mp hq with hq | hq
    · exact (Wok q (List.mem_of_mem_take hq)).1
    · rcases List.mem_append.mp hq with hq | hq
      · exact sw q (by rw [← hN]; exact hq)
      · exact (Wok q (List.mem_of_mem_drop hq)).1
  have lS : (Txt.split S " ").length ≤ 60 := by
    rw [sS]
    rw [← hN] at sn
    simp only [List.length_append, List.length_take, List.length_drop]
    omega
  have W'l : W'.length ≤ 48 := by
    rw [hW']
    simp only [List.length_append, List.length_take, List.length_drop, List.length_cons]
    omega
  have W'w : ∀ w ∈ W', w.length ≤ 20 := fun w hw => by
    rw [hW'] at hw
    rcases List.mem_append.mp hw with hw | hw
    · have := (Wok w (List.mem_of_mem_take hw)).2.2; omega
    · rcases List.mem_cons.mp hw with rfl | hw
      · exact sl
      · have := (Wok w (List.mem_of_mem_drop hw)).2.2; omega
  have Sl : S.length ≤ 400000 := by
    have := join_len " " 20 W' W'w
    rw [J_eq, ← hS] at this
    have e : (" " : Str).length = 1 := rfl
    rw [e] at this
    omega
  -- the steps
  have g : ∀ (zs l : List D), (MO.lst zs :: (P ++ [.lst l]))[P.length + 1]? = some (.lst l) := fun zs l => by simp
  have sx : ∀ (zs l l' : List D), (MO.lst zs :: (P ++ [.lst l])).set (P.length + 1) (.lst l') = .lst zs :: (P ++ [.lst l']) := fun zs l l' => by simp
  have sp : ∀ a0 a1 a4 a5 a6 a7 a8 a9 a10 a11, eSplitR (eVar 3) (eC (.str " ")) [a0, a1, a2, some (.d (.str (tx p))), a4, a5, a6, a7, a8, a9, a10, a11] (.lst xs :: P) = .ok (.r (P.length + 1)) (.lst xs :: (P ++ [.lst (W.map .str)])) := fun a0 a1 a4 a5 a6 a7 a8 a9 a10 a11 => by
    have sm : small ((tx p).length + 2) = true := small_le _ (by omega)
    have h1 : ((" " : Str).length == 0) = false := by decide +kernel
    have he : eVar 3 [a0, a1, a2, some (.d (.str (tx p))), a4, a5, a6, a7, a8, a9, a10, a11] (.lst xs :: P) = .ok (.d (.str (tx p))) (.lst xs :: P) := rfl
    unfold eSplitR
    rw [he]
    simp only [R.bind_ok, eC_eq, h1, sm, and_self, if_true, sT]
    rfl
  have bl : ∀ zs l, bLen [.r (P.length + 1)] (MO.lst zs :: (P ++ [.lst l])) = some (.d (.int (l.length : Nat)), MO.lst zs :: (P ++ [.lst l])) := fun zs l => by
    simp only [bLen, lenOf, sqOf, lsOf, g, Option.map_some]
  have bl1 := bl xs (W.map .str)
  rw [List.length_map] at bl1
  have r1' : Fs (n + 64) i__law_draw [.s ns, .r 0, .d (.int (W.length : Nat))] (.lst xs :: (P ++ [.lst (W.map .str)])) = .ok (.d (.int at')) (.lst (xs ++ [.int 0]) :: (P ++ [.lst (W.map .str)])) := r1
  have r2' : Fs (n + 64) i__law_pick [.s ns, .r 0, .d (.list [.str "not", .str "and", .str "fact", .str "0", .str "3", .str "4", .str "fact 1", .str "all", .str "holds 2", .str "know", .str "", .str "may 3", .str "02"])] (.lst (xs ++ [.int 0]) :: (P ++ [.lst (W.map .str)])) = .ok (.d (.str s)) (.lst (xs ++ [.int 0] ++ [.int 0]) :: (P ++ [.lst (W.map .str)])) := r2
  have r3' : Fs (n + 64) i__law_draw [.s ns, .r 0, .d (.int 2)] (.lst (xs ++ [.int 0] ++ [.int 0]) :: (P ++ [.lst (W.map .str)])) = .ok (.d (.int c)) (.lst ys :: (P ++ [.lst (W.map .str)])) := r3
  have s1 : small 1 = true := rfl
  have s13 : small 13 = true := rfl
  have s0 : small 0 = true := rfl
  have s2 : small 2 = true := rfl
  have ad : ∀ st : Sto, vAdd (.d (.int (at' : Int))) (.d (.int (c : Int))) st = some (.d (.int ((at' + c : Nat) : Int)), st) := fun _ => rfl
  have slp : ∀ a7 a9 a10 a11, sSlPut (eVar 5) (oSome (eVar 6)) (oSome (eOp vAdd (eVar 6) (eCl 3 (Fs (n + 64) 17) (aCons (eVar 0) (aCons (eVar 1) (aCons (eC (.int 2)) aNil)))))) (eLst (aCons (eVar 8) aNil)) [some (.s ns), some (.r 0), a2, some (.d (.str (tx p))), a4, some (.r (P.length + 1)), some (.d (.int at')), a7, some (.d (.str s)), a9, a10, a11] (.lst (xs ++ [.int 0] ++ [.int 0]) :: (P ++ [.lst (W.map .str)])) = .ok (.nx [some (.s ns), some (.r 0), a2, some (.d (.str (tx p))), a4, some (.r (P.length + 1)), some (.d (.int at')), a7, some (.d (.str s)), a9, a10, a11]) (.lst ys :: (P ++ [.lst (W'.map .str)])) := fun a7 a9 a10 a11 => by
    rw [slput_ok (v := .d (.list [.str s])) (x := .r (P.length + 1)) (l := some (at' : Int)) (h := some ((at' + c : Nat) : Int)) (s1 := .lst (xs ++ [.int 0] ++ [.int 0]) :: (P ++ [.lst (W.map .str)])) (s2 := .lst (xs ++ [.int 0] ++ [.int 0]) :: (P ++ [.lst (W.map .str)])) (s3 := .lst (xs ++ [.int 0] ++ [.int 0]) :: (P ++ [.lst (W.map .str)])) (s4 := .lst ys :: (P ++ [.lst (W.map .str)])) (by simp! only [ssE_ok, toDs, s1]) rfl rfl (by simp! only [ssE_ok, r3', ad])]
    unfold slRes
    simp only [g]
    rw [if_pos ⟨by omega, by omega, by rw [List.length_map]; omega, by rw [List.length_map, List.length_singleton]; omega⟩, sx]
    have e : (W.map PyData.str).take (at' : Int).toNat ++ [PyData.str s] ++ (W.map PyData.str).drop ((at' + c : Nat) : Int).toNat = W'.map .str := by
      rw [hW', Int.toNat_natCast, Int.toNat_natCast]
      simp only [List.map_append, List.map_cons, List.map_take, List.map_drop, List.append_assoc, List.singleton_append]
    rw [e]
  have jo : ∀ a0 a1 a6 a7 a8 a9 a10 a11, eJoin (eC (.str " ")) (eVar 5) [a0, a1, a2, some (.d (.str (tx p))), a4, some (.r (P.length + 1)), a6, a7, a8, a9, a10, a11] (.lst ys :: (P ++ [.lst (W'.map .str)])) = .ok (.d (.str S)) (.lst ys :: (P ++ [.lst (W'.map .str)])) := fun a0 a1 a6 a7 a8 a9 a10 a11 => by
    have e : (" " : Str).length = 1 := rfl
    have := join_ok (eo := eC (.str " ")) (ea := eVar 5) (env := [a0, a1, a2, some (.d (.str (tx p))), a4, some (.r (P.length + 1)), a6, a7, a8, a9, a10, a11]) (st := .lst ys :: (P ++ [.lst (W'.map .str)])) (a := " ") (y := .r (P.length + 1)) (ys := W') rfl rfl (by simp only [sqOf, lsOf, g]) 20 W'w (by rw [e]; omega)
    rwa [J_eq, ← hS] at this
  obtain ⟨Z, hZ⟩ : ∃ Z : Sto, Z = .lst ys :: (P ++ [.lst (W'.map .str)]) := ⟨_, rfl⟩
  have okZ : Okk Z := by rw [hZ]; exact okC _ (noI_app P hP _) _
  rw [← hZ] at slp jo
  have sp2 : ∀ a0 a1 a5 a6 a7 a8 a10 a11, eSplit (eVar 9) (eC (.str " ")) [a0, a1, a2, some (.d (.str (tx p))), a4, a5, a6, a7, a8, some (.d (.str S)), a10, a11] Z = .ok (.d (wL (Txt.split S " "))) Z := fun a0 a1 a5 a6 a7 a8 a10 a11 => split_ok rfl (by decide +kernel) (by omega)
  have ne0 := ne_pl ref_pl (by decide) Z
  have rd : PyData.tuple [.str "refused", .int 10] = refD := rfl
  rcases law_parsed (n + 1) lS Z okZ with ⟨q, hq, ps, is⟩ | ⟨hq, ps⟩
  · have ak : Fs (n + 64) i__law_ask [.d (.str S)] Z = .ok (.d q.d) Z := c_ask_good (n + 48) Sl hq Z okZ
    have ps' : Fs (n + 64) i__law_parse [.d (wL (Txt.split S " "))] Z = .ok (.d (.tuple [q.d, wL []])) Z := ps
    have is' : Fs (n + 64) i_is_saying [.d (.int 3), .d (.int 4), .d q.d] Z = .ok (.d (.bool true)) Z := is
    have nn : vNotN (.d (.tuple [q.d, wL []])) (.d .none) Z = some (.d (.bool true), Z) := rfl
    have i0 : vIx (.d (.tuple [q.d, wL []])) (.d (.int 0)) Z = some (.d q.d, Z) := rfl
    have i1 : vIx (.d (.tuple [q.d, wL []])) (.d (.int 1)) Z = some (.d (wL []), Z) := rfl
    have ve := ve_wL [] Z
    rw [decide_eq_true rfl] at ve
    have dl := depth_le q
    have ne : vNe (.d q.d) (.d q.d) Z = some (.d (.bool false), Z) := ne_pl (k := 12) ⟨dl.2, by have := hq.2.1; omega⟩ (by decide) Z
    refine ⟨some (.r (P.length + 1)), some (.d (.int at')), some (.d (.list [.str "not", .str "and", .str "fact", .str "0", .str "3", .str "4", .str "fact 1", .str "all", .str "holds 2", .str "know", .str "", .str "may 3", .str "02"])), some (.d (.str s)), some (.d (.str S)), some (.d (.tuple [q.d, wL []])), some (.d (.bool true)), ys, W'.map .str, by omega, ?_⟩
    rw [← hZ]
    simp! only [ssE_ok, bd_law_0, sp, bl1, r1', toDs, s13, r2', slp, jo, sp2, ps', nn, i0, i1, s0, ve, is', ak, ne]
  · have ak : Fs (n + 64) i__law_ask [.d (.str S)] Z = .ok (.d refD) Z := c_ask_bad (n + 48) Sl hq Z okZ
    rcases ps with ps | ⟨t, r, ps, hr⟩
    · have ps' : Fs (n + 64) i__law_parse [.d (wL (Txt.split S " "))] Z = .ok (.d .none) Z := ps
      have nn : vNotN (.d .none) (.d .none) Z = some (.d (.bool false), Z) := rfl
      refine ⟨some (.r (P.length + 1)), some (.d (.int at')), some (.d (.list [.str "not", .str "and", .str "fact", .str "0", .str "3", .str "4", .str "fact 1", .str "all", .str "holds 2", .str "know", .str "", .str "may 3", .str "02"])), some (.d (.str s)), some (.d (.str S)), some (.d .none), some (.d (.bool false)), ys, W'.map .str, by omega, ?_⟩
      rw [← hZ]
      simp! only [ssE_ok, bd_law_0, sp, bl1, r1', toDs, s13, r2', slp, jo, sp2, ps', nn, s2, rd, ak, ne0]
    · have ps' : Fs (n + 64) i__law_parse [.d (wL (Txt.split S " "))] Z = .ok (.d (.tuple [t, wL r])) Z := ps
      have nn : vNotN (.d (.tuple [t, wL r])) (.d .none) Z = some (.d (.bool true), Z) := rfl
      have i0 : vIx (.d (.tuple [t, wL r])) (.d (.int 0)) Z = some (.d t, Z) := rfl
      have i1 : vIx (.d (.tuple [t, wL r])) (.d (.int 1)) Z = some (.d (wL r), Z) := rfl
      have ve := ve_wL r Z
      refine ⟨some (.r (P.length + 1)), some (.d (.int at')), some (.d (.list [.str "not", .str "and", .str "fact", .str "0", .str "3", .str "4", .str "fact 1", .str "all", .str "holds 2", .str "know", .str "", .str "may 3", .str "02"])), some (.d (.str s)), some (.d (.str S)), some (.d (.tuple [t, wL r])), some (.d (.bool false)), ys, W'.map .str, by omega, ?_⟩
      rw [← hZ]
      rcases hr with hr | ⟨hr, is⟩
      · rw [decide_eq_false hr] at ve
        simp! only [ssE_ok, bd_law_0, sp, bl1, r1', toDs, s13, r2', slp, jo, sp2, ps', nn, i1, s0, ve, s2, rd, ak, ne0]
      · have is' : Fs (n + 64) i_is_saying [.d (.int 3), .d (.int 4), .d t] Z = .ok (.d (.bool false)) Z := is
        rw [decide_eq_true hr] at ve
        simp! only [ssE_ok, bd_law_0, sp, bl1, r1', toDs, s13, r2', slp, jo, sp2, ps', nn, i0, i1, s0, ve, is', s2, rd, ak, ne0]
theorem forL_nx {tg : Tg} {b : ES} {x : D} {l : List D} {env env1 env' : Ev} {st st' : Sto} (h1 : tg.put x env = some env1) (h2 : b env1 st = .ok (.nx env') st') : forL tg b (x :: l) env st = forL tg b l env' st' := by
  simp only [forL, h1, h2, andS_nx]
theorem spoils (n : Nat) (ns : List Int) (hn : ns.length ≤ 63) (p : Pl) (hp : p.ok 3 4) (hd : p.deep ≤ 5) (a2 : Option Val) : ∀ (l : List D) (P : Sto), noIns P = true → ∀ (a4 a5 a6 a7 a8 a9 a10 a11 : Option Val) (xs : List D), xs.length + 3 * l.length < 900000 → ∃ b4 b5 b6 b7 b8 b9 b10 b11 xs' P', noIns P' = true ∧ xs'.length ≤ xs.length + 3 * l.length ∧
    forL (.nm 4) (bd_law_0 (Fs (n + 64))) l [some (.s ns), some (.r 0), a2, some (.d (.str (tx p))), a4, a5, a6, a7, a8, a9, a10, a11] (.lst xs :: P) = .ok (.nx [some (.s ns), some (.r 0), a2, some (.d (.str (tx p))), b4, b5, b6, b7, b8, b9, b10, b11]) (.lst xs' :: P') := by
  intro l
  induction l with
  | nil => intro P hP a4 a5 a6 a7 a8 a9 a10 a11 xs hx; exact ⟨a4, a5, a6, a7, a8, a9, a10, a11, xs, P, hP, by omega, rfl⟩
  | cons x l ih =>
    intro P hP a4 a5 a6 a7 a8 a9 a10 a11 xs hx
    rw [List.length_cons] at hx ⊢
    obtain ⟨b5, b6, b7, b8, b9, b10, b11, xs', w, hl, e⟩ := spoil n ns hn p hp hd P hP a2 (some (.d x)) a5 a6 a7 a8 a9 a10 a11 xs (by omega)
    obtain ⟨c4, c5, c6, c7, c8, c9, c10, c11, xs2, P', hP', hl2, e2⟩ := ih (P ++ [.lst w]) (noI_app P hP w) (some (.d x)) b5 b6 b7 b8 b9 b10 b11 xs' (by omega)
    exact ⟨c4, c5, c6, c7, c8, c9, c10, c11, xs2, P', hP', by omega, (forL_nx rfl e).trans e2⟩
theorem law_true (ns : List Int) (hn : ns.length ≤ 63) (n : Nat) : ∃ st, Fs (n + 65) i_law [.s ns] [] = .ok (.d (.bool true)) st := by
  obtain ⟨p, xs1, pk, pd, x1, h1⟩ := c_plain ns 3 4 hn (by decide) (by decide) 4 (n + 55) [] [] rfl (by decide)
  have h1' : Fs (n + 64) i__law_plain [.s ns, .r 0, .d (.int 3), .d (.int 4), .d (.int 5)] [.lst []] = .ok (.d p.d) [.lst xs1] := h1
  have pd5 : p.deep ≤ 5 := pd
  have x1 : xs1.length ≤ 324 := x1
  have tx' : Fs (n + 64) i__law_text [.d p.d] [.lst xs1] = .ok (.d (.str (tx p))) [.lst xs1] := by
    have := c_ltext p pk (by omega) (n + (64 - p.deep)) [.lst xs1] rfl
    rwa [show n + (64 - p.deep) + p.deep = n + 64 by omega] at this
  have sh : Fs (n + 64) i_shown [.d p.d] [.lst xs1] = .ok (.d (.str (tx p))) [.lst xs1] := c_shown p pk (by omega) (n + 49) _ rfl
  have T5 : (tx p).length ≤ 640 := by
    have a := tx_len 3 4 (by decide) (by decide) p pk
    have b : 2 ^ p.deep ≤ 2 ^ 5 := Nat.pow_le_pow_right (by decide) pd5
    omega
  have ak : Fs (n + 64) i__law_ask [.d (.str (tx p))] [.lst xs1] = .ok (.d p.d) [.lst xs1] := c_ask_good (n + 48) (by omega) (says_tx pk (by omega)) _ rfl
  obtain ⟨b4, b5, b6, b7, b8, b9, b10, b11, xs2, P', hP', x2, lo⟩ := spoils n ns hn p pk pd5 (some (.d p.d)) ((List.range 4).map fun k : Nat => PyData.int (0 + (k : Nat))) [] rfl none none none none none none none none xs1 (by simp; omega)
  have okZ := okC P' hP' xs2
  have e1 : (" " : Str).length = 1 := rfl
  have ws := fun q hq => (wOk_is (wds_ok p pk q hq))
  have n1 : ∀ q, ¬ Says (tx p ++ (" " : Str)) q := fun q hq => by
    have e : tx p ++ (" " : Str) = J (wds p ++ [("" : Str)]) := by
      rw [J_app (M := [("" : Str)]) _ (wds_ne p) (by simp)]
      show _ = tx p ++ " " ++ ""
      rw [app_assoc]
      rfl
    have s : Txt.split (tx p ++ (" " : Str)) " " = wds p ++ [("" : Str)] := by
      rw [e]
      refine split_J (by simp) fun w hw => ?_
      rcases List.mem_append.mp hw with hw | hw
      · exact (ws w hw).1
      · rw [List.mem_singleton.mp hw]; decide +kernel
    have m : ("" : Str) ∈ wds q := by rw [← hq.2.2, s]; simp
    exact (wOk_is (wds_ok q hq.1 _ m)).2.1 rfl
  have n2 : ∀ q, ¬ Says ((" " : Str) ++ tx p) q := fun q hq => by
    have e : (" " : Str) ++ tx p = J (("" : Str) :: wds p) := by
      rw [J_cons _ (wds_ne p)]
      rfl
    have s : Txt.split ((" " : Str) ++ tx p) " " = ("" : Str) :: wds p := by
      rw [e]
      refine split_J (by simp) fun w hw => ?_
      rcases List.mem_cons.mp hw with rfl | hw
      · decide +kernel
      · exact (ws w hw).1
    have m : ("" : Str) ∈ wds q := by rw [← hq.2.2, s]; simp
    exact (wOk_is (wds_ok q hq.1 _ m)).2.1 rfl
  have k1 : Fs (n + 64) i__law_ask [.d (.str (tx p ++ (" " : Str)))] (.lst xs2 :: P') = .ok (.d refD) (.lst xs2 :: P') := c_ask_bad (n + 48) (by rw [Str.length_append]; omega) n1 _ okZ
  have k2 : Fs (n + 64) i__law_ask [.d (.str ((" " : Str) ++ tx p))] (.lst xs2 :: P') = .ok (.d refD) (.lst xs2 :: P') := c_ask_bad (n + 48) (by rw [Str.length_append]; omega) n2 _ okZ
  have va1 : ∀ st : Sto, vAdd (.d (.str (tx p))) (.d (.str " ")) st = some (.d (.str (tx p ++ (" " : Str))), st) := fun st => if_pos (small_le _ (by omega))
  have va2 : ∀ st : Sto, vAdd (.d (.str " ")) (.d (.str (tx p))) st = some (.d (.str ((" " : Str) ++ tx p)), st) := fun st => if_pos (small_le _ (by omega))
  have rm : (-(2 ^ 62) ≤ (4 : Int) ∧ (4 : Int) ≤ 1000000) := by decide
  have t4 : Int.toNat 4 = 4 := rfl
  have s0 : small 0 = true := rfl
  have s2 : small 2 = true := rfl
  have neS : ∀ (a : Str) (st : Sto), vNe (.d (.str a)) (.d (.str a)) st = some (.d (.bool false), st) := fun a st => by
    simp only [vNe, datOf, fits_str, if_true, eqv_str, beq_self_eq_true, Bool.not_true]
  have dl := depth_le p
  have neP : ∀ st : Sto, vNe (.d p.d) (.d p.d) st = some (.d (.bool false), st) := fun st => ne_pl (k := 12) ⟨dl.2, by omega⟩ (by decide) st
  have rd : PyData.tuple [.str "refused", .int 10] = refD := rfl
  have eqR := eq_pl ref_pl (by decide) (.lst xs2 :: P')
  have fe : ∀ (b : Bool) (Z : Sto), fin 0 (.d (.bool b)) Z = .ok (.d (.bool b)) [] := fun b Z => by unfold fin; rw [List.take_zero]; rfl
  refine ⟨[], ?_⟩
  rw [e_law (n + 64)]
  simp only [bd_law_0] at lo
  unfold m_law
  simp! only [ssE_ok, toDs, s0, List.nil_append, h1', tx', sh, ak, neS, neP]
  simp! only [ssE_ok, rm, and_self, t4]
  rw [lo]
  simp! only [ssE_ok, va1, va2, k1, k2, toDs, s2, rd, eqR, fe]
end Lw
end

section
set_option maxRecDepth 100000
set_option maxHeartbeats 0
namespace Lw
open PySem PySem.Spec PyProof.Rows L2 Mi
section
variable {cl : Nat → Addr} {P : Program} {w : World} {K : PySem.W.Frag} {h : Heap} {mg : Str → Option Value}
theorem glo_of (X : K.In h) (G : h.Ns mainGlobals mg) (c : SaysM fn chk K) (x : Str) (hx : x ∈ glos) : mg x = some (.ref (He.ga K x)) := by
  have c1 := (Bool.and_eq_true_iff.mp (Bool.and_eq_true_iff.mp c.check).1).1
  have c2 := (Bool.and_eq_true_iff.mp c1).2
  exact He.glo_ok X G (List.all_eq_true.mp c2 x hx)
theorem bl_of (X : K.In h) (G : h.Ns mainGlobals mg) (c : SaysM fn chk K) : Bl mg := blB_ok X G (Bool.and_eq_true_iff.mp (Bool.and_eq_true_iff.mp (Bool.and_eq_true_iff.mp c.check).1).1).1
theorem cs_of (X : K.In h) (G : h.Ns mainGlobals mg) (c : SaysM fn chk K) : Cs ⟨K, w, cl⟩ mg := by
  have c0 : chC K = true := (Bool.and_eq_true_iff.mp (Bool.and_eq_true_iff.mp c.check).1).2
  unfold chC at c0
  obtain ⟨c0, g5⟩ := Bool.and_eq_true_iff.mp c0
  obtain ⟨c0, g4⟩ := Bool.and_eq_true_iff.mp c0
  obtain ⟨c0, g3⟩ := Bool.and_eq_true_iff.mp c0
  obtain ⟨c0, g2⟩ := Bool.and_eq_true_iff.mp c0
  obtain ⟨c0, g1⟩ := Bool.and_eq_true_iff.mp c0
  exact ⟨gcB_ok X G c0, gcB_ok X G g1, gcB_ok X G g2, gcB_ok X G g3, gcB_ok X G g4, gcB_ok X G g5⟩
theorem k_is_whole (X : K.In h) (G : h.Ns mainGlobals mg) (c : SaysM fn chk K) : ∃ fd, FunD K "is_whole" "is_whole" (defArgs (top 20)) (defBody (top 20)) (defScope (top 20)) [] [] (He.ga K "is_whole") fd ∧ mg "is_whole" = some (.ref (He.ga K "is_whole")) ∧ Binds K fd ["thing", "low", "high"] [] := by
  obtain ⟨fd, F⟩ := c.def_ 0 rfl
  exact ⟨fd, F, glo_of X G c "is_whole" (by decide +kernel), F.bindsN fun _ _ _ _ _ _ us hl => match us, hl with | [_, _, _], _ => rfl⟩
theorem k_are_numbers (X : K.In h) (G : h.Ns mainGlobals mg) (c : SaysM fn chk K) : ∃ fd, FunD K "are_numbers" "are_numbers" (defArgs (top 21)) (defBody (top 21)) (defScope (top 21)) [] [] (He.ga K "are_numbers") fd ∧ mg "are_numbers" = some (.ref (He.ga K "are_numbers")) ∧ Binds K fd ["thing", "many"] [] := by
  obtain ⟨fd, F⟩ := c.def_ 1 rfl
  exact ⟨fd, F, glo_of X G c "are_numbers" (by decide +kernel), F.bindsN fun _ _ _ _ _ _ us hl => match us, hl with | [_, _], _ => rfl⟩
theorem k_are_views (X : K.In h) (G : h.Ns mainGlobals mg) (c : SaysM fn chk K) : ∃ fd, FunD K "are_views" "are_views" (defArgs (top 22)) (defBody (top 22)) (defScope (top 22)) [] [] (He.ga K "are_views") fd ∧ mg "are_views" = some (.ref (He.ga K "are_views")) ∧ Binds K fd ["thing", "minds", "many"] [] := by
  obtain ⟨fd, F⟩ := c.def_ 2 rfl
  exact ⟨fd, F, glo_of X G c "are_views" (by decide +kernel), F.bindsN fun _ _ _ _ _ _ us hl => match us, hl with | [_, _, _], _ => rfl⟩
theorem k_sizes_of (X : K.In h) (G : h.Ns mainGlobals mg) (c : SaysM fn chk K) : ∃ fd, FunD K "sizes_of" "sizes_of" (defArgs (top 27)) (defBody (top 27)) (defScope (top 27)) [] [] (He.ga K "sizes_of") fd ∧ mg "sizes_of" = some (.ref (He.ga K "sizes_of")) ∧ Binds K fd ["sizes"] [] := by
  obtain ⟨fd, F⟩ := c.def_ 3 rfl
  exact ⟨fd, F, glo_of X G c "sizes_of" (by decide +kernel), F.bindsN fun _ _ _ _ _ _ us hl => match us, hl with | [_], _ => rfl⟩
theorem k_size_of (X : K.In h) (G : h.Ns mainGlobals mg) (c : SaysM fn chk K) : ∃ fd, FunD K "size_of" "size_of" (defArgs (top 28)) (defBody (top 28)) (defScope (top 28)) [] [] (He.ga K "size_of") fd ∧ mg "size_of" = some (.ref (He.ga K "size_of")) ∧ Binds K fd ["minds", "facts", "thing"] [] := by
  obtain ⟨fd, F⟩ := c.def_ 4 rfl
  exact ⟨fd, F, glo_of X G c "size_of" (by decide +kernel), F.bindsN fun _ _ _ _ _ _ us hl => match us, hl with | [_, _, _], _ => rfl⟩
theorem k_size_after (X : K.In h) (G : h.Ns mainGlobals mg) (c : SaysM fn chk K) : ∃ fd, FunD K "size_after" "size_after" (defArgs (top 29)) (defBody (top 29)) (defScope (top 29)) [] [] (He.ga K "size_after") fd ∧ mg "size_after" = some (.ref (He.ga K "size_after")) ∧ Binds K fd ["minds", "facts", "rest"] [] := by
  obtain ⟨fd, F⟩ := c.def_ 5 rfl
  exact ⟨fd, F, glo_of X G c "size_after" (by decide +kernel), F.bindsN fun _ _ _ _ _ _ us hl => match us, hl with | [_, _, _], _ => rfl⟩
theorem k_size_of_event (X : K.In h) (G : h.Ns mainGlobals mg) (c : SaysM fn chk K) : ∃ fd, FunD K "size_of_event" "size_of_event" (defArgs (top 30)) (defBody (top 30)) (defScope (top 30)) [] [] (He.ga K "size_of_event") fd ∧ mg "size_of_event" = some (.ref (He.ga K "size_of_event")) ∧ Binds K fd ["minds", "facts", "thing"] [] := by
  obtain ⟨fd, F⟩ := c.def_ 6 rfl
  exact ⟨fd, F, glo_of X G c "size_of_event" (by decide +kernel), F.bindsN fun _ _ _ _ _ _ us hl => match us, hl with | [_, _, _], _ => rfl⟩
theorem k_size_of_deed (X : K.In h) (G : h.Ns mainGlobals mg) (c : SaysM fn chk K) : ∃ fd, FunD K "size_of_deed" "size_of_deed" (defArgs (top 31)) (defBody (top 31)) (defScope (top 31)) [] [] (He.ga K "size_of_deed") fd ∧ mg "size_of_deed" = some (.ref (He.ga K "size_of_deed")) ∧ Binds K fd ["minds", "facts", "thing"] [] := by
  obtain ⟨fd, F⟩ := c.def_ 7 rfl
  exact ⟨fd, F, glo_of X G c "size_of_deed" (by decide +kernel), F.bindsN fun _ _ _ _ _ _ us hl => match us, hl with | [_, _, _], _ => rfl⟩
theorem k_good_saying (X : K.In h) (G : h.Ns mainGlobals mg) (c : SaysM fn chk K) : ∃ fd, FunD K "good_saying" "good_saying" (defArgs (top 32)) (defBody (top 32)) (defScope (top 32)) [] [] (He.ga K "good_saying") fd ∧ mg "good_saying" = some (.ref (He.ga K "good_saying")) ∧ Binds K fd ["minds", "facts", "thing"] [] := by
  obtain ⟨fd, F⟩ := c.def_ 8 rfl
  exact ⟨fd, F, glo_of X G c "good_saying" (by decide +kernel), F.bindsN fun _ _ _ _ _ _ us hl => match us, hl with | [_, _, _], _ => rfl⟩
theorem k_is_saying (X : K.In h) (G : h.Ns mainGlobals mg) (c : SaysM fn chk K) : ∃ fd, FunD K "is_saying" "is_saying" (defArgs (top 33)) (defBody (top 33)) (defScope (top 33)) [] [] (He.ga K "is_saying") fd ∧ mg "is_saying" = some (.ref (He.ga K "is_saying")) ∧ Binds K fd ["minds", "facts", "thing"] [] := by
  obtain ⟨fd, F⟩ := c.def_ 9 rfl
  exact ⟨fd, F, glo_of X G c "is_saying" (by decide +kernel), F.bindsN fun _ _ _ _ _ _ us hl => match us, hl with | [_, _, _], _ => rfl⟩
theorem k_saying_text (X : K.In h) (G : h.Ns mainGlobals mg) (c : SaysM fn chk K) : ∃ fd, FunD K "saying_text" "saying_text" (defArgs (top 38)) (defBody (top 38)) (defScope (top 38)) [] [] (He.ga K "saying_text") fd ∧ mg "saying_text" = some (.ref (He.ga K "saying_text")) ∧ Binds K fd ["saying"] [] := by
  obtain ⟨fd, F⟩ := c.def_ 10 rfl
  exact ⟨fd, F, glo_of X G c "saying_text" (by decide +kernel), F.bindsN fun _ _ _ _ _ _ us hl => match us, hl with | [_], _ => rfl⟩
theorem k_shown (X : K.In h) (G : h.Ns mainGlobals mg) (c : SaysM fn chk K) : ∃ fd, FunD K "shown" "shown" (defArgs (top 39)) (defBody (top 39)) (defScope (top 39)) [] [] (He.ga K "shown") fd ∧ mg "shown" = some (.ref (He.ga K "shown")) ∧ Binds K fd ["saying"] [] := by
  obtain ⟨fd, F⟩ := c.def_ 11 rfl
  exact ⟨fd, F, glo_of X G c "shown" (by decide +kernel), F.bindsN fun _ _ _ _ _ _ us hl => match us, hl with | [_], _ => rfl⟩
theorem k_number_in (X : K.In h) (G : h.Ns mainGlobals mg) (c : SaysM fn chk K) : ∃ fd, FunD K "number_in" "number_in" (defArgs (top 40)) (defBody (top 40)) (defScope (top 40)) [] [] (He.ga K "number_in") fd ∧ mg "number_in" = some (.ref (He.ga K "number_in")) ∧ Binds K fd ["word"] [] := by
  obtain ⟨fd, F⟩ := c.def_ 12 rfl
  exact ⟨fd, F, glo_of X G c "number_in" (by decide +kernel), F.bindsN fun _ _ _ _ _ _ us hl => match us, hl with | [_], _ => rfl⟩
theorem k_part_of (X : K.In h) (G : h.Ns mainGlobals mg) (c : SaysM fn chk K) : ∃ fd, FunD K "part_of" "part_of" (defArgs (top 41)) (defBody (top 41)) (defScope (top 41)) [] [] (He.ga K "part_of") fd ∧ mg "part_of" = some (.ref (He.ga K "part_of")) ∧ Binds K fd ["words", "at", "deep"] [] := by
  obtain ⟨fd, F⟩ := c.def_ 13 rfl
  exact ⟨fd, F, glo_of X G c "part_of" (by decide +kernel), F.bindsN fun _ _ _ _ _ _ us hl => match us, hl with | [_, _, _], _ => rfl⟩
theorem k_read (X : K.In h) (G : h.Ns mainGlobals mg) (c : SaysM fn chk K) : ∃ fd, FunD K "read" "read" (defArgs (top 42)) (defBody (top 42)) (defScope (top 42)) [] [] (He.ga K "read") fd ∧ mg "read" = some (.ref (He.ga K "read")) ∧ Binds K fd ["text"] [] := by
  obtain ⟨fd, F⟩ := c.def_ 14 rfl
  exact ⟨fd, F, glo_of X G c "read" (by decide +kernel), F.bindsN fun _ _ _ _ _ _ us hl => match us, hl with | [_], _ => rfl⟩
theorem k__law_cell_at (X : K.In h) (G : h.Ns mainGlobals mg) (c : SaysM fn chk K) : ∃ fd, FunD K "_law_cell_at" "_law_cell_at" (defArgs (top 44)) (defBody (top 44)) (defScope (top 44)) [] [] (He.ga K "_law_cell_at") fd ∧ mg "_law_cell_at" = some (.ref (He.ga K "_law_cell_at")) ∧ Binds K fd ["script", "k"] [] := by
  obtain ⟨fd, F⟩ := c.def_ 15 rfl
  exact ⟨fd, F, glo_of X G c "_law_cell_at" (by decide +kernel), F.bindsN fun _ _ _ _ _ _ us hl => match us, hl with | [_, _], _ => rfl⟩
theorem k__law_mixed (X : K.In h) (G : h.Ns mainGlobals mg) (c : SaysM fn chk K) : ∃ fd, FunD K "_law_mixed" "_law_mixed" (defArgs (top 45)) (defBody (top 45)) (defScope (top 45)) [] [] (He.ga K "_law_mixed") fd ∧ mg "_law_mixed" = some (.ref (He.ga K "_law_mixed")) ∧ Binds K fd ["script", "k", "bound"] [] := by
  obtain ⟨fd, F⟩ := c.def_ 16 rfl
  exact ⟨fd, F, glo_of X G c "_law_mixed" (by decide +kernel), F.bindsN fun _ _ _ _ _ _ us hl => match us, hl with | [_, _, _], _ => rfl⟩
theorem k__law_draw (X : K.In h) (G : h.Ns mainGlobals mg) (c : SaysM fn chk K) : ∃ fd, FunD K "_law_draw" "_law_draw" (defArgs (top 46)) (defBody (top 46)) (defScope (top 46)) [] [] (He.ga K "_law_draw") fd ∧ mg "_law_draw" = some (.ref (He.ga K "_law_draw")) ∧ Binds K fd ["script", "town", "bound"] [] := by
  obtain ⟨fd, F⟩ := c.def_ 17 rfl
  exact ⟨fd, F, glo_of X G c "_law_draw" (by decide +kernel), F.bindsN fun _ _ _ _ _ _ us hl => match us, hl with | [_, _, _], _ => rfl⟩
theorem k__law_pick (X : K.In h) (G : h.Ns mainGlobals mg) (c : SaysM fn chk K) : ∃ fd, FunD K "_law_pick" "_law_pick" (defArgs (top 47)) (defBody (top 47)) (defScope (top 47)) [] [] (He.ga K "_law_pick") fd ∧ mg "_law_pick" = some (.ref (He.ga K "_law_pick")) ∧ Binds K fd ["script", "town", "some"] [] := by
  obtain ⟨fd, F⟩ := c.def_ 18 rfl
  exact ⟨fd, F, glo_of X G c "_law_pick" (by decide +kernel), F.bindsN fun _ _ _ _ _ _ us hl => match us, hl with | [_, _, _], _ => rfl⟩
theorem k__law_plain (X : K.In h) (G : h.Ns mainGlobals mg) (c : SaysM fn chk K) : ∃ fd, FunD K "_law_plain" "_law_plain" (defArgs (top 48)) (defBody (top 48)) (defScope (top 48)) [] [] (He.ga K "_law_plain") fd ∧ mg "_law_plain" = some (.ref (He.ga K "_law_plain")) ∧ Binds K fd ["script", "town", "minds", "facts", "deep"] [] := by
  obtain ⟨fd, F⟩ := c.def_ 19 rfl
  exact ⟨fd, F, glo_of X G c "_law_plain" (by decide +kernel), F.bindsN fun _ _ _ _ _ _ us hl => match us, hl with | [_, _, _, _, _], _ => rfl⟩
theorem k__law_which (X : K.In h) (G : h.Ns mainGlobals mg) (c : SaysM fn chk K) : ∃ fd, FunD K "_law_which" "_law_which" (defArgs (top 49)) (defBody (top 49)) (defScope (top 49)) [] [] (He.ga K "_law_which") fd ∧ mg "_law_which" = some (.ref (He.ga K "_law_which")) ∧ Binds K fd ["e"] [] := by
  obtain ⟨fd, F⟩ := c.def_ 20 rfl
  exact ⟨fd, F, glo_of X G c "_law_which" (by decide +kernel), F.bindsN fun _ _ _ _ _ _ us hl => match us, hl with | [_], _ => rfl⟩
theorem k__law_ask (X : K.In h) (G : h.Ns mainGlobals mg) (c : SaysM fn chk K) : ∃ fd, FunD K "_law_ask" "_law_ask" (defArgs (top 50)) (defBody (top 50)) (defScope (top 50)) [] [] (He.ga K "_law_ask") fd ∧ mg "_law_ask" = some (.ref (He.ga K "_law_ask")) ∧ Binds K fd ["text"] [] := by
  obtain ⟨fd, F⟩ := c.def_ 21 rfl
  exact ⟨fd, F, glo_of X G c "_law_ask" (by decide +kernel), F.bindsN fun _ _ _ _ _ _ us hl => match us, hl with | [_], _ => rfl⟩
theorem k__law_text (X : K.In h) (G : h.Ns mainGlobals mg) (c : SaysM fn chk K) : ∃ fd, FunD K "_law_text" "_law_text" (defArgs (top 51)) (defBody (top 51)) (defScope (top 51)) [] [] (He.ga K "_law_text") fd ∧ mg "_law_text" = some (.ref (He.ga K "_law_text")) ∧ Binds K fd ["saying"] [] := by
  obtain ⟨fd, F⟩ := c.def_ 22 rfl
  exact ⟨fd, F, glo_of X G c "_law_text" (by decide +kernel), F.bindsN fun _ _ _ _ _ _ us hl => match us, hl with | [_], _ => rfl⟩
theorem k__law_parse (X : K.In h) (G : h.Ns mainGlobals mg) (c : SaysM fn chk K) : ∃ fd, FunD K "_law_parse" "_law_parse" (defArgs (top 52)) (defBody (top 52)) (defScope (top 52)) [] [] (He.ga K "_law_parse") fd ∧ mg "_law_parse" = some (.ref (He.ga K "_law_parse")) ∧ Binds K fd ["words"] [] := by
  obtain ⟨fd, F⟩ := c.def_ 23 rfl
  exact ⟨fd, F, glo_of X G c "_law_parse" (by decide +kernel), F.bindsN fun _ _ _ _ _ _ us hl => match us, hl with | [_], _ => rfl⟩
theorem k_law (X : K.In h) (G : h.Ns mainGlobals mg) (c : SaysM fn chk K) : ∃ fd, FunD K "law" "law" (defArgs (top 53)) (defBody (top 53)) (defScope (top 53)) [] [] (He.ga K "law") fd ∧ mg "law" = some (.ref (He.ga K "law")) ∧ Binds K fd ["script"] [] := by
  obtain ⟨fd, F⟩ := c.def_ 24 rfl
  exact ⟨fd, F, glo_of X G c "law" (by decide +kernel), F.bindsN fun _ _ _ _ _ _ us hl => match us, hl with | [_], _ => rfl⟩
theorem ct_of (c : SaysM fn chk K) : clA K 99 = 0 := by
  have h : chT K = true := (Bool.and_eq_true_iff.mp (Bool.and_eq_true_iff.mp c.check).2).2
  simpa [chT, Bool.and_eq_true, and_assoc] using h
theorem cx_of (c : SaysM fn chk K) : xtB K (List.range 18) = true ∧ iniB K 4 = true ∧ iniB K 14 = true := by
  have h : chX K = true := (Bool.and_eq_true_iff.mp (Bool.and_eq_true_iff.mp c.check).2).1
  unfold chX at h
  have h1 := Bool.and_eq_true_iff.mp h
  have h2 := Bool.and_eq_true_iff.mp h1.2
  exact ⟨h1.1, h2.1, h2.2⟩
theorem ini4 (X : K.In h) (c : SaysM fn chk K) (base : Heap) : InitOk (clA K) P w K mg base 4 "saying" := by
  obtain ⟨fd, F⟩ := c.def_ 25 rfl
  exact ini_of (cx_of c).2.1 F rfl ⟨rfl, rfl, rfl, by decide +kernel, rfl, by decide +kernel, by decide +kernel⟩ (by decide) (by decide) rfl rfl (fun _ => rfl) (F.bindsN fun _ _ _ _ _ _ us hl => match us, hl with | [_, _], _ => rfl)
theorem ini14 (X : K.In h) (c : SaysM fn chk K) (base : Heap) : InitOk (clA K) P w K mg base 14 "number" := by
  obtain ⟨fd, F⟩ := c.def_ 26 rfl
  exact ini_of (cx_of c).2.2 F rfl ⟨rfl, rfl, rfl, by decide +kernel, rfl, by decide +kernel, by decide +kernel⟩ (by decide) (by decide) rfl rfl (fun _ => rfl) (F.bindsN fun _ _ _ _ _ _ us hl => match us, hl with | [_, _], _ => rfl)
theorem whk (X : K.In h) (G : h.Ns mainGlobals mg) (c : SaysM fn chk K) (base : Heap) : WhOk (List.range 18) (clA K) P w K mg base 1 "_law_which" := by
  obtain ⟨fd, F, g, b⟩ := k__law_which X G c
  exact wh_of F sc__law_which g b (fun cdv A outer s H E a oe d j hj hz hf hr => b__law_which (xtB_ok X G (cx_of c).1) (bl_of X G c) cdv A outer s H E a oe d j hj hz hf hr)
theorem tb (X : K.In h) (G : h.Ns mainGlobals mg) (c : SaysM fn chk K) (base : Heap) : ∀ k, Tb (clA K) P w K mg base (k + 3) (Fs k)
  | 0 => by
    obtain ⟨fd0, F0, g0, b0⟩ := k_is_whole X G c
    obtain ⟨fd1, F1, g1, b1⟩ := k_are_numbers X G c
    obtain ⟨fd2, F2, g2, b2⟩ := k_are_views X G c
    obtain ⟨fd3, F3, g3, b3⟩ := k_sizes_of X G c
    obtain ⟨fd4, F4, g4, b4⟩ := k_size_of X G c
    obtain ⟨fd5, F5, g5, b5⟩ := k_size_after X G c
    obtain ⟨fd6, F6, g6, b6⟩ := k_size_of_event X G c
    obtain ⟨fd7, F7, g7, b7⟩ := k_size_of_deed X G c
    obtain ⟨fd8, F8, g8, b8⟩ := k_good_saying X G c
    obtain ⟨fd9, F9, g9, b9⟩ := k_is_saying X G c
    obtain ⟨fd10, F10, g10, b10⟩ := k_saying_text X G c
    obtain ⟨fd11, F11, g11, b11⟩ := k_shown X G c
    obtain ⟨fd12, F12, g12, b12⟩ := k_number_in X G c
    obtain ⟨fd13, F13, g13, b13⟩ := k_part_of X G c
    obtain ⟨fd14, F14, g14, b14⟩ := k_read X G c
    obtain ⟨fd15, F15, g15, b15⟩ := k__law_cell_at X G c
    obtain ⟨fd16, F16, g16, b16⟩ := k__law_mixed X G c
    obtain ⟨fd17, F17, g17, b17⟩ := k__law_draw X G c
    obtain ⟨fd18, F18, g18, b18⟩ := k__law_pick X G c
    obtain ⟨fd19, F19, g19, b19⟩ := k__law_plain X G c
    obtain ⟨fd21, F21, g21, b21⟩ := k__law_ask X G c
    obtain ⟨fd22, F22, g22, b22⟩ := k__law_text X G c
    obtain ⟨fd23, F23, g23, b23⟩ := k__law_parse X G c
    obtain ⟨fd24, F24, g24, b24⟩ := k_law X G c
    exact ⟨xtB_ok X G (cx_of c).1, ini4 X c base, ini14 X c base, whk X G c base, fok_bad rfl g0 F0.kp b0, fok_bad rfl g1 F1.kp b1, fok_bad rfl g2 F2.kp b2, fok_bad rfl g3 F3.kp b3, fok_bad rfl g4 F4.kp b4, fok_bad rfl g5 F5.kp b5, fok_bad rfl g6 F6.kp b6, fok_bad rfl g7 F7.kp b7, fok_bad rfl g8 F8.kp b8, fok_bad rfl g9 F9.kp b9, fok_bad rfl g10 F10.kp b10, fok_bad rfl g11 F11.kp b11, fok_bad rfl g12 F12.kp b12, fok_bad rfl g13 F13.kp b13, fok_bad rfl g14 F14.kp b14, fok_bad rfl g15 F15.kp b15, fok_bad rfl g16 F16.kp b16, fok_bad rfl g17 F17.kp b17, fok_bad rfl g18 F18.kp b18, fok_bad rfl g19 F19.kp b19, fok_bad rfl g21 F21.kp b21, fok_bad rfl g22 F22.kp b22, fok_bad rfl g23 F23.kp b23, fok_bad rfl g24 F24.kp b24⟩
  | k + 1 => by
    have T := tb X G c base k
    have B := bl_of X G c
    have C : Cs ⟨K, w, clA K⟩ mg := cs_of X G c
    obtain ⟨fd0, F0, g0, b0⟩ := k_is_whole X G c
    obtain ⟨fd1, F1, g1, b1⟩ := k_are_numbers X G c
    obtain ⟨fd2, F2, g2, b2⟩ := k_are_views X G c
    obtain ⟨fd3, F3, g3, b3⟩ := k_sizes_of X G c
    obtain ⟨fd4, F4, g4, b4⟩ := k_size_of X G c
    obtain ⟨fd5, F5, g5, b5⟩ := k_size_after X G c
    obtain ⟨fd6, F6, g6, b6⟩ := k_size_of_event X G c
    obtain ⟨fd7, F7, g7, b7⟩ := k_size_of_deed X G c
    obtain ⟨fd8, F8, g8, b8⟩ := k_good_saying X G c
    obtain ⟨fd9, F9, g9, b9⟩ := k_is_saying X G c
    obtain ⟨fd10, F10, g10, b10⟩ := k_saying_text X G c
    obtain ⟨fd11, F11, g11, b11⟩ := k_shown X G c
    obtain ⟨fd12, F12, g12, b12⟩ := k_number_in X G c
    obtain ⟨fd13, F13, g13, b13⟩ := k_part_of X G c
    obtain ⟨fd14, F14, g14, b14⟩ := k_read X G c
    obtain ⟨fd15, F15, g15, b15⟩ := k__law_cell_at X G c
    obtain ⟨fd16, F16, g16, b16⟩ := k__law_mixed X G c
    obtain ⟨fd17, F17, g17, b17⟩ := k__law_draw X G c
    obtain ⟨fd18, F18, g18, b18⟩ := k__law_pick X G c
    obtain ⟨fd19, F19, g19, b19⟩ := k__law_plain X G c
    obtain ⟨fd21, F21, g21, b21⟩ := k__law_ask X G c
    obtain ⟨fd22, F22, g22, b22⟩ := k__law_text X G c
    obtain ⟨fd23, F23, g23, b23⟩ := k__law_parse X G c
    obtain ⟨fd24, F24, g24, b24⟩ := k_law X G c
    exact ⟨xtB_ok X G (cx_of c).1, ini4 X c base, ini14 X c base, whk X G c base, fok_of F0 sc_is_whole (by decide) g0 b0 rfl rfl (fun cdv A outer s H E hr tk hp => b_is_whole T B C cdv A outer s H E hr tk hp),
      fok_of F1 sc_are_numbers (by decide) g1 b1 rfl rfl (fun cdv A outer s H E hr tk hp => b_are_numbers T B C cdv A outer s H E hr tk hp),
      fok_of F2 sc_are_views (by decide) g2 b2 rfl rfl (fun cdv A outer s H E hr tk hp => b_are_views T B C cdv A outer s H E hr tk hp),
      fok_of F3 sc_sizes_of (by decide) g3 b3 rfl rfl (fun cdv A outer s H E hr tk hp => b_sizes_of T B C cdv A outer s H E hr tk hp),
      fok_of F4 sc_size_of (by decide) g4 b4 rfl rfl (fun cdv A outer s H E hr tk hp => b_size_of T B C cdv A outer s H E hr tk hp),
      fok_of F5 sc_size_after (by decide) g5 b5 rfl rfl (fun cdv A outer s H E hr tk hp => b_size_after T B C cdv A outer s H E hr tk hp),
      fok_of F6 sc_size_of_event (by decide) g6 b6 rfl rfl (fun cdv A outer s H E hr tk hp => b_size_of_event T B C cdv A outer s H E hr tk hp),
      fok_of F7 sc_size_of_deed (by decide) g7 b7 rfl rfl (fun cdv A outer s H E hr tk hp => b_size_of_deed T B C cdv A outer s H E hr tk hp),
      fok_of F8 sc_good_saying (by decide) g8 b8 rfl rfl (fun cdv A outer s H E hr tk hp => b_good_saying T B C cdv A outer s H E hr tk hp),
      fok_of F9 sc_is_saying (by decide) g9 b9 rfl rfl (fun cdv A outer s H E hr tk hp => b_is_saying T B C cdv A outer s H E hr tk hp),
      fok_of F10 sc_saying_text (by decide) g10 b10 rfl rfl (fun cdv A outer s H E hr tk hp => b_saying_text T B C cdv A outer s H E hr tk hp),
      fok_of F11 sc_shown (by decide) g11 b11 rfl rfl (fun cdv A outer s H E hr tk hp => b_shown T B C cdv A outer s H E hr tk hp),
      fok_of F12 sc_number_in (by decide) g12 b12 rfl rfl (fun cdv A outer s H E hr tk hp => b_number_in T B C cdv A outer s H E hr tk hp),
      fok_of F13 sc_part_of (by decide) g13 b13 rfl rfl (fun cdv A outer s H E hr tk hp => b_part_of T B C cdv A outer s H E hr tk hp),
      fok_of F14 sc_read (by decide) g14 b14 rfl rfl (fun cdv A outer s H E hr tk hp => b_read T B C cdv A outer s H E hr tk hp),
      fok_of F15 sc__law_cell_at (by decide) g15 b15 rfl rfl (fun cdv A outer s H E hr tk hp => b__law_cell_at T B C cdv A outer s H E hr tk hp),
      fok_of F16 sc__law_mixed (by decide) g16 b16 rfl rfl (fun cdv A outer s H E hr tk hp => b__law_mixed T B C cdv A outer s H E hr tk hp),
      fok_of F17 sc__law_draw (by decide) g17 b17 rfl rfl (fun cdv A outer s H E hr tk hp => b__law_draw T B C cdv A outer s H E hr tk hp),
      fok_of F18 sc__law_pick (by decide) g18 b18 rfl rfl (fun cdv A outer s H E hr tk hp => b__law_pick T B C cdv A outer s H E hr tk hp),
      fok_of F19 sc__law_plain (by decide) g19 b19 rfl rfl (fun cdv A outer s H E hr tk hp => b__law_plain T B C cdv A outer s H E hr tk hp),
      fok_of F21 sc__law_ask (by decide) g21 b21 rfl rfl (fun cdv A outer s H E hr tk hp => b__law_ask T B C cdv A outer s H E hr tk hp),
      fok_of F22 sc__law_text (by decide) g22 b22 rfl rfl (fun cdv A outer s H E hr tk hp => b__law_text T B C cdv A outer s H E hr tk hp),
      fok_of F23 sc__law_parse (by decide) g23 b23 rfl rfl (fun cdv A outer s H E hr tk hp => b__law_parse T B C cdv A outer s H E hr tk hp),
      fok_of F24 sc_law (by decide) g24 b24 rfl rfl (fun cdv A outer s H E hr tk hp => b_law T B C cdv A outer s H E hr tk hp)⟩
theorem facts {f : Addr} (X : K.In h) (G : h.Ns mainGlobals mg) (hfa : mg ("law" : Str) = some (.ref f)) (c : SaysM fn chk K) :
    ∃ fd : FuncData, (∀ (s : Shared) (v : Value), BindsTo s fd ⟨[v], []⟩ [("script", v)]) ∧ ∀ base : Heap, K.In base → base.Ns mainGlobals mg → FnOk P w K mg base (L2N.CX P w) 68 f fd ["script"] (spF ⟨K, w, clA K⟩ 1 (Fs 65 i_law)) := by
  obtain ⟨fd, F, g, b⟩ := k_law X G c
  have e := hfa.symm.trans g
  cases e
  have bA := FunD.bindsA (ps := ["script"]) F fun _ _ _ _ _ _ us hl => match us, hl with | [_], _ => rfl
  refine ⟨fd, fun s v => bA s [v] rfl, fun base Xb Gb => ?_⟩
  have T : Tb (clA K) P w K mg base (64 + 3) (Fs 64) := tb X G c base 64
  refine F.ok sc_law (fun vs H Q E h => ?_) (fun cdv A outer s H vs Q E hr hh => ?_)
  · obtain ⟨G, m, st, as, rl, ra, hl, p⟩ := h
    rw [ra.length, hl]; rfl
  · exact ⟨_, b_law T (bl_of X G c) (cs_of X G c) cdv A outer s H E hr (L2N.takes_of rfl rfl rfl rfl) (passes_of rfl), fn_sound_aux (ps := ["script"]) (by decide) hh⟩
end
end Lw
open PySem PySem.W PySem.Calls PyProof.Rows
theorem PySem.Challenge.cw_mindsteps_k30_whole_texts_holds : PySem.Challenge.rw_mindsteps_k30_whole_texts.Holds := by
  w_on; o_law
  refine HandSHeadRun.head_any (r := OpenLaw.row PySem.Challenge.rw_mindsteps_k30_whole_texts) (q := view (OpenLaw.row PySem.Challenge.rw_mindsteps_k30_whole_texts).prog [53]) (H := Lw.hk) (ob := Lw.ob) (M := 6000) (loose := Lw.loose) (d := HandSHeadRun.topDef (OpenLaw.row PySem.Challenge.rw_mindsteps_k30_whole_texts).prog 53) (kwd := []) Lw.ob_eq
    (by kernel_rfl) (fun s => by kernel_rfl) Lw.run (by kernel_rfl) (by kernel_rfl) (by kernel_rfl) (by rfl) (by first | assumption | decide +kernel) (by decide +kernel) ⟨rfl, rfl, rfl, rfl, rfl, by decide +kernel⟩ ?hw ?hc
  case hw => w_witness2
  case hc =>
    refine Mi.walk_ofM (l := PySem.Challenge.rw_mindsteps_k30_whole_texts) (n := 63) (k := 68) (x := "script") (CX := fun w => L2N.CX PySem.Challenge.rw_mindsteps_k30_whole_texts.prog w) rfl (by decide) (by kernel_rfl) ⟨rfl, by decide, by decide⟩ ?F ?X
    case X => exact fun _ _ _ _ _ ⟨_, _, _, _, _, _, _, _, _, _, _, _, z⟩ => z
    case F =>
      intro w mg fa h Y G hmg0
      obtain ⟨K, KX, c0⟩ := Y
      have c := c0
      have hmg : mg ("law" : PySem.Str) = some (.ref fa) := by
        have e : (HandSHeadRun.topDef (OpenLaw.row PySem.Challenge.rw_mindsteps_k30_whole_texts).prog 53).name = ("law" : PySem.Str) := by kernel_rfl
        rw [← e]
        exact hmg0
      obtain ⟨fd, hb, hF⟩ := Lw.facts (P := (PySem.Challenge.rw_mindsteps_k30_whole_texts).prog) (w := w) KX G hmg c
      refine ⟨K, fd, _, KX, hb, fun H a ns hl _ hS => ?_, hF⟩
      obtain ⟨st, e⟩ := Lw.law_true ns hl 0
      refine ⟨Mi.noTbl H, [], [], [.s ns], Mi.rl_start (fun j hj => absurd (show j < Mi.clA K 99 from hj) (by rw [Lw.ct_of c]; exact Nat.not_lt_zero _)), .cons (.s (Mi.sqL_noTbl hS)) .nil, rfl, ?_⟩
      rw [e]
      intro x H' G' m' _ _ rx
      cases rx with
      | d rx => cases rx; rfl
end
