import PyProof.Rows.All
import Wide.All
import OpenK.AllK
import Wide.FinOn
import HandS.ForMost
import HandS.ForExc
import HandS.IsInst
import HandS.Wide
import HandS.WideBits
import HandS.TryMany
import HandS.TupAny
import HandS.TupMul
import HandS.Flow
import HandS.TupLe
import HandS.Conv
import HandS.Steps
import HandS.Nested
import HandS.TupLen
import HandS.SetKeys
import HandS.Deep
import HandS.Small
import HandS.TryElse
import HandS.ExcOwn
import HandS.ExcIs
import HandS.Zip
import HandS.Rev
import HandS.EndTab
import HandS.EndOwn
import PyProof.DictMoreH
import PyProof.StrBlock2
import PyProof.Rows.StrMul
import HandS.Text
import HandS.StrSplit
import PyProof.DictUpdate
import PyProof.FactsAll.dict_3
import PyProof.FactsAll.dict_4
import PyProof.StrLawsIn
import PyProof.StrLawsChain
import HandS.Comp
import KE.KRevIter
import HandS.RevTup
import HandS.ExcInit
import HandS.ExcField
import HandS.ClsMeth
import KE.KExcIs
import PyProof.P3Eq
import HandS.RaiseMore
import HandS.More
import HandS.SortInts
import PyProof.NeKinds
import HandS.DictComp
import HandS.ListItems
import KE.KEqDict
import HandS.DictTup
import HandS.List
import HandS.Head2
import KE.KNestM
import PySem.Challenge.RW_rootstamp_k21_what_is_a_slip
set_option Elab.async false
set_option linter.all false
set_option maxRecDepth 100000
set_option maxHeartbeats 4000000

/-! The engine, part 0: data, the store, how they lie in the abstract heap. -/
namespace Eng
open PySem PySem.Spec PyProof.Rows L2

/-- a value: scalars and tuples as data, all else by its place in the store or its global name -/
inductive D where
  | non | bl (b : Bool) | int (i : Int) | str (x : Str) | tup (xs : List D) | ref (n : Nat) | ty (n : String) | gl (x : Str)

/-- the words of a nested def or a lambda, and the names that it captures -/
structure NW where
  name : Str
  qual : Str
  params : Arguments
  body : FuncBody
  scope : Scope
  fr : List Str
/-- what stands in the store -/
inductive Ob where
  | lst (xs : List D)
  /-- a list that is never written -/
  | rdl (xs : List D)
  | dk (kvs : List (Key × D))
  | dt (kvs : List (List Key × D))
  | ins (C : Str) (fs : List (Str × D))
  /-- an exception that was caught: its class, its own fields -/
  | exn (C : Str) (fs : List (Str × D))
  /-- a nested def's object: its number, its words, where its cells stand -/
  | fn (i : Nat) (W : NW) (ns : List Nat)
  /-- a captured cell and what it holds; one that a running def has open -/
  | cel (d : D)
  | opn

/-- its function object -/
abbrev NW.fd (W : NW) (cl : List (Str × Addr)) (c : Addr) (doc pm ctv : Value) : FuncData :=
  { name := W.name, qualname := W.qual, params := W.params, body := W.body, scope := W.scope, globals := mainGlobals, closure := cl, defaults := .none, kwdefaults := .none, doc := doc, pyModule := pm, annotations := none, code := .ref c, closureTuple := ctv, builtins := builtinsNs }
def FnQ (f : Addr) (W : NW) (cl : List (Str × Addr)) (c : Addr) : HO := .ext fun h => ∃ (od : Option Addr) (sl : Array (Option Value)) (doc pm ctv : Value), h.get? f = some (⟨.type "function", od, .func (W.fd cl c doc pm ctv), sl⟩ : Obj)
/-- the tables of code objects of the defs that make functions -/
class TabCfg where
  tabs : List NdefX.NTab
/-- where nothing is told: none -/
instance (priority := low) noTabs : TabCfg := ⟨[]⟩
abbrev Sto := List Ob
abbrev Env' := List (Option D)
structure Exn where
  cls : Str
  fs : List (Str × D)
inductive R (α : Type) where
  | ok (a : α) (S : Sto)
  | ex (x : Exn) (S : Sto)
  | stuck
def R.bind {α β : Type} : R α → (α → Sto → R β) → R β
  | .ok a S, f => f a S
  | .ex x S, _ => .ex x S
  | .stuck, _ => .stuck
abbrev Mx := Env' → Sto → R D

mutual
inductive Vd (K : PySem.W.Frag) (mg : Str → Option Value) (β : List Addr) (H : Hp) : V → D → Prop
  | non : Vd K mg β H .non .non
  | bl (b : Bool) : Vd K mg β H (.bl b) (.bl b)
  | int (i : Int) : Vd K mg β H (.int i) (.int i)
  | str (x : Str) : Vd K mg β H (.str x) (.str x)
  | ty (n : String) : Vd K mg β H (.ty n) (.ty n)
  | tup {a : Addr} {xs : List V} {ds : List D} : H a = some (.tup xs) → Vds K mg β H xs ds → Vd K mg β H (.ref a) (.tup ds)
  | ref {a : Addr} {n : Nat} : β[n]? = some a → Vd K mg β H (.ref a) (.ref n)
  | gl {a : Addr} {x : Str} : mg x = some (.ref a) → Vd K mg β H (.ref a) (.gl x)
inductive Vds (K : PySem.W.Frag) (mg : Str → Option Value) (β : List Addr) (H : Hp) : List V → List D → Prop
  | nil : Vds K mg β H [] []
  | cons {v : V} {vs : List V} {d : D} {ds : List D} : Vd K mg β H v d → Vds K mg β H vs ds → Vds K mg β H (v :: vs) (d :: ds)
end
section
variable (K : PySem.W.Frag) (mg : Str → Option Value) (β : List Addr) (H : Hp)
/-- pairs with the same first part -/
def Pd {κ : Type} : List (κ × V) → List (κ × D) → Prop := Paired fun p q => p.1 = q.1 ∧ Vd K mg β H p.2 q.2
/-- an exception's own fields, in its own dict -/
def Fx (od : Option Addr) (fs : List (Str × D)) : Prop := (fs = [] ∧ od = none) ∨ ∃ d xs, od = some d ∧ fs ≠ [] ∧ H d = some (.xd xs) ∧ Pd K mg β H xs fs
/-- at a: an exception of the class cls, its dict od -/
def exoH (a : Addr) (cls : Value) (od : Option Addr) : HO := .ext fun h => ∃ (oe : Obj) (vs : Array Value), h.get? a = some oe ∧ Zc cls od oe ∧ oe.data = .fields vs
def CellO (c : Addr) (v : V) : HO := .ext fun h => ∃ u, RelV v u ∧ h.IsCell c (some u)
/-- how a function's cells lie in the store -/
structure CapB (β : List Addr) (cl : List (Str × Addr)) (fr : List Str) (ns : List Nat) : Prop where
  len : ns.length = fr.length
  has : ∀ (j : Nat) (y : Str), fr[j]? = some y → ∃ n a, ns[j]? = some n ∧ β[n]? = some a ∧ cl.lookup y = some a
  sub : ∀ y a, cl.lookup y = some a → y ∈ fr
  inj : ∀ x y a, cl.lookup x = some a → cl.lookup y = some a → x = y
def ObR (a : Addr) : Ob → Prop
  | .fn _ W ns => ∃ (cl : List (Str × Addr)) (c : Addr), H a = some (FnQ a W cl c) ∧ H c = some (LamX.CodeO c W.qual) ∧ CapB β cl W.fr ns
  | .cel d => ∃ v, H a = some (CellO a v) ∧ Vd K mg β H v d
  | .opn => True
  | .exn C fs => ∃ Ca od, mg C = some (.ref Ca) ∧ H a = some (exoH a (.ref Ca) od) ∧ Fx K mg β H od fs
  | .lst ds => ∃ xs, H a = some (.lst xs) ∧ Vds K mg β H xs ds
  | .rdl ds => ∃ xs, (((∃ o, H a = some (.frz o (.lst xs))) ∨ ∃ (o : Obj) (its : Array Value) (n : Nat), K.lookup a = some o ∧ o.cls = .type "list" ∧ o.dict = none ∧ o.data = .seq its n ∧ its.size ≤ sizeLine ∧ Vals xs its.toList)) ∧ Vds K mg β H xs ds
  | .dk kvs => ∃ xs, H a = some (.dK xs) ∧ Pd K mg β H xs kvs
  | .dt kvs => ∃ xs, H a = some (.dT xs) ∧ Pd K mg β H xs kvs
  | .ins C fs => ∃ Ca dx xs, mg C = some (.ref Ca) ∧ H a = some (.ins Ca dx xs) ∧ Pd K mg β H xs fs ∧ Cls K Ca ∧ ∀ p ∈ fs, NoAttr K Ca p.1
def Ob.wr : Ob → Bool
  | .rdl _ => false
  | .opn => false
  | _ => true
/-- what can be written -/
def Ob.mu : Ob → Bool
  | .lst _ => true
  | .dk _ => true
  | .dt _ => true
  | .ins _ _ => true
  | _ => false
theorem Ob.wr_of {o : Ob} (h : o.mu = true) : o.wr = true := by cases o <;> first | rfl | cases h
variable [TabCfg]
structure Rl (S : Sto) : Prop where
  len : β.length = S.length
  at' : ∀ (n : Nat) (a : Addr) (o : Ob), β[n]? = some a → S[n]? = some o → ObR K mg β H a o
  uniq : ∀ (n m : Nat) (a : Addr) (o u : Ob), β[n]? = some a → β[m]? = some a → S[n]? = some o → S[m]? = some u → o.wr = true → u.wr = true → n = m
  tabs : ∀ p ∈ TabCfg.tabs, NdefX.TabN H p.1 p.2
structure En (ρ : Env') (σ : L2.St) : Prop where
  len : ρ.length = σ.length
  at' : ∀ (i : Nat) (d : D), ρ[i]? = some (some d) → ∃ v, σ[i]? = some (some v) ∧ Vd K mg β H v d
/-- what is behind goes on from what was ahead -/
structure Xt (K : PySem.W.Frag) (β : List Addr) (H : Hp) (β' : List Addr) (H' : Hp) : Prop where
  pre : ∃ l, β' = β ++ l
  tup : ∀ a xs, H a = some (HO.tup xs) → H' a = some (HO.tup xs)
  xd : ∀ a xs, H a = some (HO.xd xs) → H' a = some (HO.xd xs)
  cod : ∀ a q, H a = some (LamX.CodeO a q) → H' a = some (LamX.CodeO a q)
  fnq : ∀ a W cl c, H a = some (FnQ a W cl c) → H' a = some (FnQ a W cl c)
end
variable [TabCfg]

section
variable {K : PySem.W.Frag} {mg : Str → Option Value} {β β' β'' : List Addr} {H H' H'' : Hp} {S S' : Sto} {ρ : Env'} {σ : L2.St}
theorem Xt.refl : Xt K β H β H := ⟨⟨[], by simp⟩, fun _ _ h => h, fun _ _ h => h, fun _ _ h => h, fun _ _ _ _ h => h⟩
theorem Xt.trans (a : Xt K β H β' H') (b : Xt K β' H' β'' H'') : Xt K β H β'' H'' := by
  obtain ⟨⟨l, e⟩, t, u, z, y⟩ := a
  obtain ⟨⟨l', e'⟩, t', u', z', y'⟩ := b
  exact ⟨⟨l ++ l', by rw [e', e, List.append_assoc]⟩, fun a xs h => t' a xs (t a xs h), fun a xs h => u' a xs (u a xs h), fun a xs h => z' a xs (z a xs h), fun a W cl c h => y' a W cl c (y a W cl c h)⟩
theorem Xt.at' (x : Xt K β H β' H') {n : Nat} {a : Addr} (h : β[n]? = some a) : β'[n]? = some a := by
  obtain ⟨⟨l, e⟩, _, _, _, _⟩ := x
  rw [e, List.getElem?_append_left (List.getElem?_eq_some_iff.mp h).1]
  exact h
mutual
theorem Vd.ext (x : Xt K β H β' H') : ∀ {v : V} {d : D}, Vd K mg β H v d → Vd K mg β' H' v d
  | _, _, .non => .non
  | _, _, .bl b => .bl b
  | _, _, .int i => .int i
  | _, _, .str z => .str z
  | _, _, .ty n => .ty n
  | _, _, .tup h t => .tup (x.tup _ _ h) (Vds.ext x t)
  | _, _, .ref h => .ref (x.at' h)
  | _, _, .gl h => .gl h
theorem Vds.ext (x : Xt K β H β' H') : ∀ {vs : List V} {ds : List D}, Vds K mg β H vs ds → Vds K mg β' H' vs ds
  | _, _, .nil => .nil
  | _, _, .cons h t => .cons (Vd.ext x h) (Vds.ext x t)
end
theorem Paired.imp {α γ : Type} {F G : α → γ → Prop} : ∀ {l : List α} {m : List γ}, Paired F l m → (∀ a b, F a b → G a b) → Paired G l m
  | _, _, .nil, _ => .nil
  | _, _, .cons r t, f => .cons (f _ _ r) (Paired.imp t f)
theorem Pd.ext {κ : Type} (x : Xt K β H β' H') {xs : List (κ × V)} {ds : List (κ × D)} (h : Pd K mg β H xs ds) : Pd K mg β' H' xs ds := Paired.imp h fun _ _ r => ⟨r.1, r.2.ext x⟩
theorem Fx.ext {od : Option Addr} {fs : List (Str × D)} (x : Xt K β H β' H') (h : Fx K mg β H od fs) : Fx K mg β' H' od fs := by
  rcases h with h | ⟨d, xs, h1, h0, h2, h3⟩
  · exact .inl h
  · exact .inr ⟨d, xs, h1, h0, x.xd _ _ h2, h3.ext x⟩
theorem En.ext (x : Xt K β H β' H') (e : En K mg β H ρ σ) : En K mg β' H' ρ σ :=
  ⟨e.len, fun i d h => let ⟨v, h1, h2⟩ := e.at' i d h; ⟨v, h1, h2.ext x⟩⟩
theorem Vds.length : ∀ {vs : List V} {ds : List D}, Vds K mg β H vs ds → vs.length = ds.length
  | _, _, .nil => rfl
  | _, _, .cons _ t => congrArg (· + 1) (Vds.length t)
theorem Vds.get : ∀ {vs : List V} {ds : List D} {i : Nat} {d : D}, Vds K mg β H vs ds → ds[i]? = some d → ∃ v, vs[i]? = some v ∧ Vd K mg β H v d
  | _, _, _, _, .nil, h => by simp at h
  | _, _, 0, _, .cons h _, e => by simp at e; subst e; exact ⟨_, rfl, h⟩
  | _, _, i + 1, _, .cons _ t, e => by
    obtain ⟨v, h1, h2⟩ := Vds.get (i := i) t (by simpa using e)
    exact ⟨v, by simpa using h1, h2⟩
theorem Vds.getV : ∀ {vs : List V} {ds : List D} {i : Nat} {v : V}, Vds K mg β H vs ds → vs[i]? = some v → ∃ d, ds[i]? = some d ∧ Vd K mg β H v d
  | _, _, _, _, .nil, h => by simp at h
  | _, _, 0, _, .cons h _, e => by simp at e; subst e; exact ⟨_, rfl, h⟩
  | _, _, i + 1, _, .cons _ t, e => by
    obtain ⟨v, h1, h2⟩ := Vds.getV (i := i) t (by simpa using e)
    exact ⟨v, by simpa using h1, h2⟩
theorem Vds.append : ∀ {vs ws : List V} {ds es : List D}, Vds K mg β H vs ds → Vds K mg β H ws es → Vds K mg β H (vs ++ ws) (ds ++ es)
  | _, _, _, _, .nil, h => h
  | _, _, _, _, .cons h t, q => .cons h (Vds.append t q)
theorem Vds.take : ∀ {vs : List V} {ds : List D} (n : Nat), Vds K mg β H vs ds → Vds K mg β H (vs.take n) (ds.take n)
  | _, _, 0, _ => .nil
  | _, _, _ + 1, .nil => .nil
  | _, _, n + 1, .cons h t => .cons h (Vds.take n t)
theorem Vds.drop : ∀ {vs : List V} {ds : List D} (n : Nat), Vds K mg β H vs ds → Vds K mg β H (vs.drop n) (ds.drop n)
  | _, _, 0, h => h
  | _, _, _ + 1, .nil => .nil
  | _, _, n + 1, .cons _ t => Vds.drop n t
theorem Vds.set : ∀ {vs : List V} {ds : List D} {v : V} {d : D} (n : Nat), Vds K mg β H vs ds → Vd K mg β H v d → Vds K mg β H (vs.set n v) (ds.set n d)
  | _, _, _, _, _, .nil, _ => .nil
  | _, _, _, _, 0, .cons _ t, h => .cons h t
  | _, _, _, _, n + 1, .cons q t, h => .cons q (Vds.set n t h)
theorem Vds.reverse : ∀ {vs : List V} {ds : List D}, Vds K mg β H vs ds → Vds K mg β H vs.reverse ds.reverse
  | _, _, .nil => .nil
  | _, _, .cons h t => by
    rw [List.reverse_cons, List.reverse_cons]
    exact Vds.append (Vds.reverse t) (.cons h .nil)

/-! ### changes of the heap -/
theorem xt_upd {p : Addr} {o : HO} (hp : ∀ ys, H p ≠ some (.tup ys)) (hq : ∀ ys, H p ≠ some (.xd ys)) (hz : ∀ φ, H p ≠ some (.ext φ)) : Xt K β H β (upd H p o) := ⟨⟨[], by simp⟩, fun a xs h => by
  rw [upd_ne (fun e => hp xs (by rw [← e]; exact h))]; exact h, fun a xs h => by
  rw [upd_ne (fun e => hq xs (by rw [← e]; exact h))]; exact h, fun a xs h => by
  rw [upd_ne (fun e => hz _ (by rw [← e]; exact h))]; exact h, fun a W cl c h => by
  rw [upd_ne (fun e => hz _ (by rw [← e]; exact h))]; exact h⟩
theorem xt_new {p : Addr} {o : HO} (hp : H p = none) : Xt K β H (β ++ [p]) (upd H p o) :=
  ⟨⟨[p], rfl⟩, fun a xs h => by rw [upd_ne (ne_of_none h hp)]; exact h, fun a xs h => by rw [upd_ne (ne_of_none h hp)]; exact h, fun a xs h => by rw [upd_ne (ne_of_none h hp)]; exact h, fun a W cl c h => by rw [upd_ne (ne_of_none h hp)]; exact h⟩
theorem xt_new' {p : Addr} {o : HO} (hp : H p = none) : Xt K β H β (upd H p o) :=
  ⟨⟨[], by simp⟩, fun a xs h => by rw [upd_ne (ne_of_none h hp)]; exact h, fun a xs h => by rw [upd_ne (ne_of_none h hp)]; exact h, fun a xs h => by rw [upd_ne (ne_of_none h hp)]; exact h, fun a W cl c h => by rw [upd_ne (ne_of_none h hp)]; exact h⟩
theorem CapB.ext {β β' : List Addr} {cl : List (Str × Addr)} {fr : List Str} {ns : List Nat} (c : CapB β cl fr ns) (x : Xt K β H β' H') : CapB β' cl fr ns :=
  ⟨c.len, fun j y h => let ⟨n, a, h1, h2, h3⟩ := c.has j y h; ⟨n, a, h1, x.at' h2, h3⟩, c.sub, c.inj⟩

/-- an object keeps its reading where its own cell is untouched -/
theorem ObR.ext {a : Addr} {o : Ob} (x : Xt K β H β' H') (h : ObR K mg β H a o) (ha : o.wr = true → H' a = H a) (hr : ∀ u v, H a = some (.frz u v) → H' a = some (.frz u v)) : ObR K mg β' H' a o := by
  cases o with
  | lst ds => obtain ⟨xs, h1, h2⟩ := h; exact ⟨xs, (ha rfl).trans h1, h2.ext x⟩
  | rdl ds =>
    obtain ⟨xs, h1, h2⟩ := h
    refine ⟨xs, ?_, h2.ext x⟩
    rcases h1 with ⟨u, h1⟩ | h1
    · exact .inl ⟨u, hr _ _ h1⟩
    · exact .inr h1
  | dk ds => obtain ⟨xs, h1, h2⟩ := h; exact ⟨xs, (ha rfl).trans h1, h2.ext x⟩
  | dt ds => obtain ⟨xs, h1, h2⟩ := h; exact ⟨xs, (ha rfl).trans h1, h2.ext x⟩
  | ins C fs => obtain ⟨Ca, dx, xs, h0, h1, h2, h3⟩ := h; exact ⟨Ca, dx, xs, h0, (ha rfl).trans h1, h2.ext x, h3⟩
  | fn i W ns => obtain ⟨cl, c, h1, h2, h3⟩ := h; exact ⟨cl, c, (ha rfl).trans h1, x.cod _ _ h2, h3.ext x⟩
  | cel d => obtain ⟨v, h1, h2⟩ := h; exact ⟨v, (ha rfl).trans h1, h2.ext x⟩
  | opn => exact True.intro
  | exn C fs => obtain ⟨Ca, od, h0, h1, h2⟩ := h; exact ⟨Ca, od, h0, (ha rfl).trans h1, h2.ext x⟩
/-- a writable object's cell -/
theorem ObR.tracked {a : Addr} {o : Ob} (h : ObR K mg β H a o) (hw : o.wr = true) : ∃ u, H a = some u ∧ ((∀ ys, u ≠ .tup ys) ∧ ∀ ys, u ≠ .xd ys) ∧ ∀ y z, u ≠ .frz y z := by
  cases o with
  | lst ds => obtain ⟨xs, h1, _⟩ := h; exact ⟨_, h1, ⟨(fun _ e => nomatch e), (fun _ e => nomatch e)⟩, (fun _ _ e => nomatch e)⟩
  | rdl ds => cases hw
  | dk ds => obtain ⟨xs, h1, _⟩ := h; exact ⟨_, h1, ⟨(fun _ e => nomatch e), (fun _ e => nomatch e)⟩, (fun _ _ e => nomatch e)⟩
  | dt ds => obtain ⟨xs, h1, _⟩ := h; exact ⟨_, h1, ⟨(fun _ e => nomatch e), (fun _ e => nomatch e)⟩, (fun _ _ e => nomatch e)⟩
  | exn C fs =>
    obtain ⟨Ca, od, _, h1, _⟩ := h
    exact ⟨_, h1, ⟨(fun _ e => by unfold exoH at e; cases e), (fun _ e => by unfold exoH at e; cases e)⟩, (fun _ _ e => by unfold exoH at e; cases e)⟩
  | ins C fs => obtain ⟨Ca, dx, xs, _, h1, _⟩ := h; exact ⟨_, h1, ⟨(fun _ e => nomatch e), (fun _ e => nomatch e)⟩, (fun _ _ e => nomatch e)⟩
  | fn i W ns => obtain ⟨cl, c, h1, _⟩ := h; exact ⟨_, h1, ⟨(fun _ e => by unfold FnQ at e; cases e), (fun _ e => by unfold FnQ at e; cases e)⟩, (fun _ _ e => by unfold FnQ at e; cases e)⟩
  | cel d => obtain ⟨v, h1, _⟩ := h; exact ⟨_, h1, ⟨(fun _ e => by unfold CellO at e; cases e), (fun _ e => by unfold CellO at e; cases e)⟩, (fun _ _ e => by unfold CellO at e; cases e)⟩
  | opn => cases hw
theorem ObR.notbl {a : Addr} {o : Ob} (h : ObR K mg β H a o) (hm : o.mu = true) : ∀ ps, H a ≠ some (.tbl ps) := by
  intro φ e
  cases o with
  | lst ds => obtain ⟨xs, h1, _⟩ := h; rw [h1] at e; cases e
  | dk ds => obtain ⟨xs, h1, _⟩ := h; rw [h1] at e; cases e
  | dt ds => obtain ⟨xs, h1, _⟩ := h; rw [h1] at e; cases e
  | ins C fs => obtain ⟨Ca, dx, xs, _, h1, _⟩ := h; rw [h1] at e; cases e
  | _ => cases hm
/-- one that can be written is no thing of one's own -/
theorem ObR.noext {a : Addr} {o : Ob} (h : ObR K mg β H a o) (hm : o.mu = true) : ∀ φ, H a ≠ some (.ext φ) := by
  intro φ e
  cases o with
  | lst ds => obtain ⟨xs, h1, _⟩ := h; rw [h1] at e; cases e
  | dk ds => obtain ⟨xs, h1, _⟩ := h; rw [h1] at e; cases e
  | dt ds => obtain ⟨xs, h1, _⟩ := h; rw [h1] at e; cases e
  | ins C fs => obtain ⟨Ca, dx, xs, _, h1, _⟩ := h; rw [h1] at e; cases e
  | _ => cases hm
/-- the tables stay where their objects stay -/
theorem tabN_stay {p : NdefX.NTab} (t : NdefX.TabN H p.1 p.2) (x : Xt K β H β' H') (h : ∀ ps, H p.1 = some (.tbl ps) → H' p.1 = some (.tbl ps)) : NdefX.TabN H' p.1 p.2 := by
  obtain ⟨ps, h1, h2, h3⟩ := t
  exact ⟨ps, h ps h1, h2, fun pos cv hc => let ⟨c, e1, e2⟩ := h3 pos cv hc; ⟨c, e1, x.cod _ _ e2⟩⟩
/-- only things that the store doesn't speak of have changed -/
theorem Rl.same (r : Rl K mg β H S) (x : Xt K β H β H') (k : ∀ a u, H a = some u → H' a = some u) : Rl K mg β H' S :=
  ⟨r.len, fun n a o h1 h2 => (r.at' n a o h1 h2).ext x (fun hw => by
    obtain ⟨u, e, _⟩ := (r.at' n a o h1 h2).tracked hw
    rw [e]; exact k a u e) (fun u v e => k a _ e), r.uniq, fun p hp => tabN_stay (r.tabs p hp) x fun ps e => k _ _ e⟩
theorem keep_new {p : Addr} {o : HO} (hp : H p = none) : ∀ a u, H a = some u → upd H p o a = some u := fun a u e => by
  rw [upd_ne (ne_of_none e hp)]; exact e
/-- a new tuple -/
theorem Rl.tup (r : Rl K mg β H S) {p : Addr} {o : HO} (hp : H p = none) : Rl K mg β (upd H p o) S := r.same (xt_new' hp) (keep_new hp)
/-- a new object -/
theorem Rl.new (r : Rl K mg β H S) {p : Addr} {o : HO} {b : Ob} (hp : H p = none) (hb : ObR K mg (β ++ [p]) (upd H p o) p b) : Rl K mg (β ++ [p]) (upd H p o) (S ++ [b]) := by
  have x : Xt K β H (β ++ [p]) (upd H p o) := xt_new hp
  refine ⟨by simp [r.len], fun n a u h1 h2 => ?_, fun n m a u v h1 h2 h3 h4 w1 w2 => ?_, fun q hq => tabN_stay (r.tabs q hq) x fun ps e => keep_new hp _ _ e⟩
  · by_cases hn : n < β.length
    · rw [List.getElem?_append_left hn] at h1
      rw [List.getElem?_append_left (by rw [← r.len]; exact hn)] at h2
      refine (r.at' n a u h1 h2).ext x (fun hw => ?_) (fun y z e => keep_new hp a _ e)
      obtain ⟨y, e, _⟩ := (r.at' n a u h1 h2).tracked hw
      rw [e]; exact keep_new hp a _ e
    · have hl := (List.getElem?_eq_some_iff.mp h1).1
      rw [List.length_append, List.length_singleton] at hl
      have e : n = β.length := by omega
      subst e
      rw [List.getElem?_append_right (Nat.le_refl _), Nat.sub_self] at h1
      rw [r.len, List.getElem?_append_right (Nat.le_refl _), Nat.sub_self] at h2
      have e1 : p = a := Option.some.inj h1
      have e2 : b = u := Option.some.inj h2
      rw [← e1, ← e2]; exact hb
  · have key : ∀ k c (w : Ob), (β ++ [p])[k]? = some c → (S ++ [b])[k]? = some w → w.wr = true → (k < β.length ∧ β[k]? = some c ∧ S[k]? = some w ∧ c ≠ p) ∨ (k = β.length ∧ c = p) := by
      intro k c w e1 e2 e3
      by_cases hk : k < β.length
      · rw [List.getElem?_append_left hk] at e1
        rw [List.getElem?_append_left (by rw [← r.len]; exact hk)] at e2
        obtain ⟨y, e, _⟩ := (r.at' k c w e1 e2).tracked e3
        exact .inl ⟨hk, e1, e2, ne_of_none e hp⟩
      · have hl := (List.getElem?_eq_some_iff.mp e1).1
        rw [List.length_append, List.length_singleton] at hl
        have e : k = β.length := by omega
        subst e
        rw [List.getElem?_append_right (Nat.le_refl _), Nat.sub_self] at e1
        exact .inr ⟨rfl, (Option.some.inj e1).symm⟩
    rcases key n a u h1 h3 w1 with ⟨_, a1, a2, a3⟩ | ⟨a1, a2⟩ <;> rcases key m a v h2 h4 w2 with ⟨_, b1, b2, b3⟩ | ⟨b1, b2⟩
    · exact r.uniq n m a u v a1 b1 a2 b2 w1 w2
    · exact absurd b2 a3
    · exact absurd a2 b3
    · rw [a1, b1]
/-- an object of the store is written -/
theorem Rl.write (r : Rl K mg β H S) {n : Nat} {p : Addr} {o : HO} {b b' : Ob} (h1 : β[n]? = some p) (h2 : S[n]? = some b) (hm0 : b.mu = true) (hw' : b'.wr = true) (hb : Xt K β H β (upd H p o) → ObR K mg β (upd H p o) p b') : Rl K mg β (upd H p o) (S.set n b') ∧ Xt K β H β (upd H p o) := by
  have hw : b.wr = true := Ob.wr_of hm0
  obtain ⟨y, e, t1, t2⟩ := (r.at' n p b h1 h2).tracked hw
  have x : Xt K β H β (upd H p o) := xt_upd (fun ys z => by rw [e] at z; exact t1.1 _ (Option.some.inj z)) (fun ys z => by rw [e] at z; exact t1.2 _ (Option.some.inj z)) ((r.at' n p b h1 h2).noext hm0)
  have key : ∀ m (w : Ob), (S.set n b')[m]? = some w → w.wr = true → ∃ w' : Ob, S[m]? = some w' ∧ w'.wr = true := fun m w q qw => by
    by_cases hm : n = m
    · subst hm; exact ⟨b, h2, hw⟩
    · rw [List.getElem?_set_ne hm] at q; exact ⟨w, q, qw⟩
  refine ⟨⟨by rw [List.length_set]; exact r.len, fun m a u q1 q2 => ?_, fun m k a u v q1 q2 q3 q4 w1 w2 => ?_, fun q hq => tabN_stay (r.tabs q hq) x fun ps e' => by
    rw [upd_ne (fun z => (r.at' n p b h1 h2).notbl hm0 ps (by rw [← z]; exact e'))]; exact e'⟩, x⟩
  · by_cases hm : n = m
    · subst hm
      rw [h1] at q1
      have e1 : p = a := Option.some.inj q1
      rw [List.getElem?_set_self (List.getElem?_eq_some_iff.mp h2).1] at q2
      have e2 : b' = u := Option.some.inj q2
      rw [← e1, ← e2]; exact hb x
    · rw [List.getElem?_set_ne hm] at q2
      refine (r.at' m a u q1 q2).ext x (fun hu => ?_) (fun y' z' e' => ?_)
      · have : a ≠ p := fun e' => hm (r.uniq n m p b u h1 (by rw [← e']; exact q1) h2 q2 hw hu)
        rw [upd_ne this]
      · have : a ≠ p := fun e'' => by
          rw [e''] at e'; rw [e] at e'; exact t2 _ _ (Option.some.inj e')
        rw [upd_ne this]; exact e'
  · obtain ⟨u', a1, a2⟩ := key m u q3 w1
    obtain ⟨v', b1, b2⟩ := key k v q4 w2
    exact r.uniq m k a u' v' q1 q2 a1 b1 a2 b2
end
end Eng

/-! The engine, part 1: outcomes, the judgements, names, constants, operators, tests, displays. -/
namespace Eng
open PySem PySem.Spec PyProof.Rows L2
variable [TabCfg]

section
variable (K : PySem.W.Frag) (mg : Str → Option Value)
/-- an exception: its class by name, its own fields in its own dict -/
def Xd (β : List Addr) (H : Hp) (cls : Value) (od : Option Addr) (x : Exn) : Prop :=
  ∃ C, mg x.cls = some (.ref C) ∧ cls = .ref C ∧ Fx K mg β H od x.fs
/-- an outcome leads to G, or, by an exception, to the wish W -/
def Po {α : Type} (W : WX) (σ : L2.St) (β : List Addr) (H : Hp) (r : R α) (G : α → List Addr → Sto → Hp → Prop) : Prop :=
  match r with
  | .ok d S => ∀ β' H', Xt K β H β' H' → Rl K mg β' H' S → G d β' S H'
  | .ex x S => ∀ cls od β' H', Xt K β H β' H' → Rl K mg β' H' S → Xd K mg β' H' cls od x → W cls od σ H'
  | .stuck => False
def tM (W : WX) (m : Mx) : TE := fun σ H Q => ∃ β S ρ, Rl K mg β H S ∧ En K mg β H ρ σ ∧ Po K mg W σ β H (m ρ S) fun d β' _ H' => ∀ v, Vd K mg β' H' v d → Q v H'
abbrev Mb := Env' → Sto → R Bool
def tMT (W : WX) (m : Mb) : TT := fun σ H Q => ∃ β S ρ, Rl K mg β H S ∧ En K mg β H ρ σ ∧ Po K mg W σ β H (m ρ S) fun b _ _ H' => Q b H'
abbrev Ma := Env' → Sto → R (List D)
def tMA (W : WX) (m : Ma) : TA := fun σ H Q => ∃ β S ρ, Rl K mg β H S ∧ En K mg β H ρ σ ∧ Po K mg W σ β H (m ρ S) fun ds β' _ H' => ∀ vs, Vds K mg β' H' vs ds → Q vs H'
end
section
variable {K : PySem.W.Frag} {mg : Str → Option Value} {W : WX} {σ : L2.St} {β β1 : List Addr} {H H1 : Hp} {α γ : Type}
theorem Po.xt {r : R α} {G : α → List Addr → Sto → Hp → Prop} (h : Po K mg W σ β H r G) (x : Xt K β H β1 H1) : Po K mg W σ β1 H1 r G := by
  cases r with
  | ok d S => exact fun β' H' y r => h β' H' (x.trans y) r
  | ex e S => exact fun cls od β' H' y r q => h cls od β' H' (x.trans y) r q
  | stuck => exact h
theorem Po.mono {r : R α} {G G' : α → List Addr → Sto → Hp → Prop} (h : Po K mg W σ β H r G) (f : ∀ d β' S H', Xt K β H β' H' → Rl K mg β' H' S → G d β' S H' → G' d β' S H') : Po K mg W σ β H r G' := by
  cases r with
  | ok d S => exact fun β' H' y r => f d β' S H' y r (h β' H' y r)
  | ex e S => exact h
  | stuck => exact h
theorem Po.bind {r : R α} {k : α → Sto → R γ} {G : γ → List Addr → Sto → Hp → Prop} (h : Po K mg W σ β H (r.bind k) G) : Po K mg W σ β H r fun d β' S H' => Po K mg W σ β' H' (k d S) G := by
  cases r with
  | ok d S => exact fun β' H' y r => Po.xt (show Po K mg W σ β H (k d S) G from h) y
  | ex e S => exact h
  | stuck => exact h
end

structure ME (X : Cx) (W : WX) (e : Expr) (m : Mx) : Prop where
  pe : PE X e (tM X.K X.mg W m)
structure MT (X : Cx) (W : WX) (e : Expr) (m : Mb) : Prop where
  pt : PT X e (tMT X.K X.mg W m)
structure MW (X : Cx) (W : WX) (e : Expr) (m : Mb) : Prop where
  pw : PW X e (tMT X.K X.mg W m)
structure MA (X : Cx) (W : WX) (es : List Expr) (m : Ma) : Prop where
  pa : PA X es (tMA X.K X.mg W m)
theorem PE.weak {X : Cx} {e : Expr} {t t' : TE} (h : PE X e t) (i : ∀ σ H Q, t' σ H Q → t σ H Q) : PE X e t' := ⟨fun pins s σ H Q I q => h.run pins s σ H Q I (i σ H Q q)⟩
theorem PT.weak {X : Cx} {e : Expr} {t t' : TT} (h : PT X e t) (i : ∀ σ H Q, t' σ H Q → t σ H Q) : PT X e t' := ⟨fun pins s σ H Q I q => h.run pins s σ H Q I (i σ H Q q)⟩
theorem PW.weak {X : Cx} {e : Expr} {t t' : TT} (h : PW X e t) (i : ∀ σ H Q, t' σ H Q → t σ H Q) : PW X e t' := ⟨fun wh pins s σ H Q I q => h.run wh pins s σ H Q I (i σ H Q q)⟩
theorem PA.weak {X : Cx} {e : List Expr} {t t' : TA} (h : PA X e t) (i : ∀ σ H Q, t' σ H Q → t σ H Q) : PA X e t' := ⟨fun pos pins s σ H Q I q => h.run pos pins s σ H Q I (i σ H Q q)⟩

/-! ### names and constants -/
def getV (ρ : Env') (i : Nat) (S : Sto) : R D := match ρ[i]? with
  | some (some d) => .ok d S
  | _ => .stuck
def mVar (i : Nat) : Mx := fun ρ S => getV ρ i S
def mC (d : D) : Mx := fun _ S => .ok d S
section
variable {X : Cx} {W : WX}
theorem me_of_var {i : Nat} {e : Expr} (h : PE X e (tVar i)) : ME X W e (mVar i) := by
  refine ⟨PE.weak h fun σ H Q ⟨β, S, ρ, r, en, p⟩ => ?_⟩
  unfold mVar getV at p
  cases q : ρ[i]? with
  | none => rw [q] at p; exact p.elim
  | some o =>
    cases o with
    | none => rw [q] at p; exact p.elim
    | some d =>
      rw [q] at p
      obtain ⟨v, h1, h2⟩ := en.at' i d q
      exact ⟨v, h1, p β H .refl r v h2⟩
theorem me_var (i : Nat) {x : Str} {pos : Pos} (hN : X.N[i]? = some x := by rfl) (hv : Vis X.env.scope x := by first | exact Or.inl rfl | exact Or.inr (Or.inl rfl) | exact Or.inr (Or.inr rfl)) (hd : (x == ("__debug__" : Str)) = false := by decide)
    (hcd : (x == ("__classdict__" : Str)) = false := by decide) : ME X W (.Name x pos) (mVar i) := me_of_var (pe_var hN hv hd hcd)
theorem me_of_c {v : V} {d : D} {e : Expr} (h : PE X e (tC v)) (hd : ∀ β H, Vd X.K X.mg β H v d) : ME X W e (mC d) :=
  ⟨PE.weak h fun σ H Q ⟨β, S, ρ, r, en, p⟩ => p β H .refl r v (hd β H)⟩
theorem me_int {i : Int} {j : Nat} {pos : Pos} : ME X W (.Constant (.int i) j pos) (mC (.int i)) := me_of_c pe_int fun _ _ => .int i
theorem me_bl {b : Bool} {j : Nat} {pos : Pos} : ME X W (.Constant (.bool b) j pos) (mC (.bl b)) := me_of_c pe_bl fun _ _ => .bl b
theorem me_non {j : Nat} {pos : Pos} : ME X W (.Constant .none j pos) (mC .non) := me_of_c pe_non fun _ _ => .non
theorem me_str {x : Str} {j : Nat} {pos : Pos} : ME X W (.Constant (.str x) j pos) (mC (.str x)) := me_of_c pe_str fun _ _ => .str x
/-- a def or class of the text as a value -/
theorem me_gl {x : Str} {a : Addr} {pos : Pos} (hg : Gl X x) (hm : X.mg x = some (.ref a)) (hdb : (x == ("__debug__" : Str)) = false := by decide) : ME X W (.Name x pos) (mC (.gl x)) := me_of_c (pe_glob (v := .ref a) hg hm rfl hdb) fun _ _ => .gl hm
/-- a module's constant -/
theorem me_glI {x : Str} {i : Int} {t : Tok} {pos : Pos} (hg : Gl X x) (hm : X.mg x = some (.int i t)) (hdb : (x == ("__debug__" : Str)) = false := by decide) : ME X W (.Name x pos) (mC (.int i)) := me_of_c (pe_glob (v := .int i) hg hm ⟨t, rfl⟩ hdb) fun _ _ => .int i
theorem me_glS {x z : Str} {t : Tok} {pos : Pos} (hg : Gl X x) (hm : X.mg x = some (.str z t)) (hdb : (x == ("__debug__" : Str)) = false := by decide) : ME X W (.Name x pos) (mC (.str z)) := me_of_c (pe_glob (v := .str z) hg hm ⟨t, rfl⟩ hdb) fun _ _ => .str z
/-- a built-in type as a value -/
theorem me_ty {x : Str} {n : String} {pos : Pos} (hg : Gl X x) (hm : X.mg x = none) (hv : bootBuiltins x = some (.type n)) (hn : x ≠ "__name__" := by decide) (hdb : (x == ("__debug__" : Str)) = false := by decide) : ME X W (.Name x pos) (mC (.ty n)) := me_of_c (pe_bltn (v := .ty n) hg hm hv rfl hn hdb) fun _ _ => .ty n
end

/-! ### operators -/
abbrev F1 := D → Sto → Option (D × Sto)
abbrev F2 := D → D → Sto → Option (D × Sto)
def R.ofO : Option (D × Sto) → R D
  | some (d, S) => .ok d S
  | none => .stuck
def mUn (f : F1) (ma : Mx) : Mx := fun ρ S => (ma ρ S).bind fun x S1 => R.ofO (f x S1)
def mBin (f : F2) (ma mb : Mx) : Mx := fun ρ S => (ma ρ S).bind fun x S1 => (mb ρ S1).bind fun y S2 => R.ofO (f x y S2)
/-- the values' rule r is what f says -/
def Op2 (X : Cx) (r : R2) (f : F2) : Prop := ∀ β H S x y v u d S' Q, Rl X.K X.mg β H S → Vd X.K X.mg β H v x → Vd X.K X.mg β H u y → f x y S = some (d, S') →
  (∀ β' H' w, Xt X.K β H β' H' → Rl X.K X.mg β' H' S' → Vd X.K X.mg β' H' w d → Q w H') → r v u H Q
def Op1 (X : Cx) (r : V → Hp → VK → Prop) (f : F1) : Prop := ∀ β H S x v d S' Q, Rl X.K X.mg β H S → Vd X.K X.mg β H v x → f x S = some (d, S') →
  (∀ β' H' w, Xt X.K β H β' H' → Rl X.K X.mg β' H' S' → Vd X.K X.mg β' H' w d → Q w H') → r v H Q
section
variable {K : PySem.W.Frag} {mg : Str → Option Value} {W : WX} {σ : L2.St} {β : List Addr} {H : Hp}
theorem Po.ofO {o : Option (D × Sto)} {G : D → List Addr → Sto → Hp → Prop} (h : Po K mg W σ β H (R.ofO o) G) : ∃ d S, o = some (d, S) ∧ ∀ β' H', Xt K β H β' H' → Rl K mg β' H' S → G d β' S H' := by
  cases o with
  | none => exact h.elim
  | some p => exact ⟨p.1, p.2, rfl, h⟩
end
section
variable {X : Cx} {W : WX} {a b c : Expr} {ma mb mc : Mx} {pos : Pos}
/-- the reading of two parts in a row, then a rule of values -/
theorem two_of {r : R2} {f : F2} (hf : Op2 X r f) {σ : L2.St} {H : Hp} {Q : VK} (h : tM X.K X.mg W (mBin f ma mb) σ H Q) : tM X.K X.mg W ma σ H fun x H1 => tM X.K X.mg W mb σ H1 fun y H2 => r x y H2 Q := by
  obtain ⟨β, S, ρ, rl, en, p⟩ := h
  refine ⟨β, S, ρ, rl, en, p.bind.mono fun d β1 S1 H1 x1 r1 q v hv => ⟨β1, S1, ρ, r1, en.ext x1, q.bind.mono fun e β2 S2 H2 x2 r2 q2 u hu => ?_⟩⟩
  obtain ⟨z, S3, e3, k⟩ := q2.ofO
  exact hf β2 H2 S2 d e v u z S3 Q r2 (hv.ext x2) hu e3 fun β' H' w x r hw => k β' H' x r w hw
theorem me_bin {r : R2} {f : F2} {op : Operator} (ho : OpR X (binaryOp op) r) (hf : Op2 X r f) (ha : ME X W a ma) (hb : ME X W b mb) : ME X W (.BinOp a op b pos) (mBin f ma mb) :=
  ⟨PE.weak (pe_op ho ha.pe hb.pe) fun σ H Q h => two_of hf h⟩
theorem me_cmp {r : R2} {f : F2} {op : CmpOp} (ho : OpR X (compareOp op) r) (hf : Op2 X r f) (ha : ME X W a ma) (hb : ME X W b mb) (hm : behindInMarks op b = false) : ME X W (.Compare a [op] [b] pos) (mBin f ma mb) :=
  ⟨PE.weak (pe_cmpR ho ha.pe hb.pe hm) fun σ H Q h => two_of hf h⟩
theorem me_un {r : V → Hp → VK → Prop} {f : F1} {op : UnaryOp} (ho : UnR X (unaryOp op) r) (hf : Op1 X r f) (ha : ME X W a ma) : ME X W (.UnaryOp op a pos) (mUn f ma) := by
  refine ⟨PE.weak (pe_un ho ha.pe) fun σ H Q ⟨β, S, ρ, rl, en, p⟩ => ?_⟩
  refine ⟨β, S, ρ, rl, en, p.bind.mono fun d β1 S1 H1 x1 r1 q v hv => ?_⟩
  obtain ⟨z, S3, e3, k⟩ := q.ofO
  exact hf β1 H1 S1 d v z S3 Q r1 hv e3 fun β' H' w x r hw => k β' H' x r w hw
end

/-! ### tests -/
/-- an expression whose value is a bool, as a test -/
def asB (r : R D) : R Bool := r.bind fun d S => match d with
  | .bl b => .ok b S
  | _ => .stuck
def mTB (m : Mx) : Mb := fun ρ S => asB (m ρ S)
/-- a value's truth -/
def truD : D → Sto → Option Bool
  | .non, _ => some false
  | .bl b, _ => some b
  | .int i, _ => some (i != 0)
  | .str y, _ => if y.length ≤ sizeLine then some ((y.length : Int) != 0) else none
  | .tup xs, _ => some (!xs.isEmpty)
  | .ref n, S => match S[n]? with
    | some (.lst xs) => some (!xs.isEmpty)
    | some (.rdl xs) => some (!xs.isEmpty)
    | some (.dk kvs) => some (!kvs.isEmpty)
    | _ => none
  | _, _ => none
def mTru (m : Mx) : Mb := fun ρ S => (m ρ S).bind fun d S1 => match truD d S1 with
  | some b => .ok b S1
  | none => .stuck
def mAnd (ma mb : Mb) : Mb := fun ρ S => (ma ρ S).bind fun c S1 => if c = true then mb ρ S1 else .ok false S1
def mOr (ma mb : Mb) : Mb := fun ρ S => (ma ρ S).bind fun c S1 => if c = true then .ok true S1 else mb ρ S1
def mNot (ma : Mb) : Mb := fun ρ S => (ma ρ S).bind fun c S1 => .ok (!c) S1
def mBl (m : Mb) : Mx := fun ρ S => (m ρ S).bind fun c S1 => .ok (.bl c) S1
def mIf (mt : Mb) (ma mb : Mx) : Mx := fun ρ S => (mt ρ S).bind fun c S1 => if c = true then ma ρ S1 else mb ρ S1
theorem isEmpty_vds {K : PySem.W.Frag} {mg : Str → Option Value} {β : List Addr} {H : Hp} {vs : List V} {ds : List D} (h : Vds K mg β H vs ds) : (!vs.isEmpty) = !ds.isEmpty := by cases h <;> rfl
theorem Vd.bl_inv {K : PySem.W.Frag} {mg : Str → Option Value} {β : List Addr} {H : Hp} {v : V} {b : Bool} (h : Vd K mg β H v (.bl b)) : v = .bl b := by cases h; rfl
theorem Vd.int_inv {K : PySem.W.Frag} {mg : Str → Option Value} {β : List Addr} {H : Hp} {v : V} {b : Int} (h : Vd K mg β H v (.int b)) : v = .int b := by cases h; rfl
theorem Vd.str_inv {K : PySem.W.Frag} {mg : Str → Option Value} {β : List Addr} {H : Hp} {v : V} {b : Str} (h : Vd K mg β H v (.str b)) : v = .str b := by cases h; rfl
theorem Vd.non_inv {K : PySem.W.Frag} {mg : Str → Option Value} {β : List Addr} {H : Hp} {v : V} (h : Vd K mg β H v .non) : v = .non := by cases h; rfl
theorem Vd.tup_inv {K : PySem.W.Frag} {mg : Str → Option Value} {β : List Addr} {H : Hp} {v : V} {ds : List D} (h : Vd K mg β H v (.tup ds)) : ∃ a xs, v = .ref a ∧ SqT K H a xs ∧ Vds K mg β H xs ds := by
  cases h with
  | tup h t => exact ⟨_, _, rfl, .of h, t⟩
theorem Vd.ref_inv {K : PySem.W.Frag} {mg : Str → Option Value} {β : List Addr} {H : Hp} {v : V} {n : Nat} (h : Vd K mg β H v (.ref n)) : ∃ a, v = .ref a ∧ β[n]? = some a := by
  cases h with
  | ref h => exact ⟨_, rfl, h⟩
theorem Vd.tup_at {K : PySem.W.Frag} {mg : Str → Option Value} {β : List Addr} {H : Hp} {v : V} {ds : List D} (h : Vd K mg β H v (.tup ds)) : ∃ a xs, v = .ref a ∧ H a = some (.tup xs) ∧ Vds K mg β H xs ds := by
  cases h with
  | tup h t => exact ⟨_, _, rfl, h, t⟩
/-- a list of the store, to be read -/
def lstAt (S : Sto) (n : Nat) : Option (List D) := match S[n]? with
  | some (.lst xs) => some xs
  | some (.rdl xs) => some xs
  | _ => none
theorem lst_read {K : PySem.W.Frag} {mg : Str → Option Value} {β : List Addr} {H : Hp} {S : Sto} {n : Nat} {a : Addr} {ds : List D} (r : Rl K mg β H S) (h : β[n]? = some a) (hs : lstAt S n = some ds) : ∃ xs, SqL K H a xs ∧ Vds K mg β H xs ds := by
  unfold lstAt at hs
  cases q : S[n]? with
  | none => rw [q] at hs; cases hs
  | some o =>
    rw [q] at hs
    have ho := r.at' n a o h q
    cases o with
    | lst xs =>
      have e : xs = ds := Option.some.inj hs
      subst e
      obtain ⟨vs, h1, h2⟩ := ho
      exact ⟨vs, .of h1, h2⟩
    | rdl xs =>
      have e : xs = ds := Option.some.inj hs
      subst e
      obtain ⟨vs, h1, h2⟩ := ho
      refine ⟨vs, ?_, h2⟩
      rcases h1 with ⟨u, h1⟩ | h1
      · exact .inl (.inr ⟨u, h1⟩)
      · exact .inr h1
    | _ => cases hs
theorem tru_of {K : PySem.W.Frag} {mg : Str → Option Value} {β : List Addr} {H : Hp} {S : Sto} {v : V} {d : D} {b : Bool} (r : Rl K mg β H S) (h : Vd K mg β H v d) (e : truD d S = some b) : TruV K v H b := by
  cases h with
  | non => cases e; rfl
  | bl c => cases e; rfl
  | int i => cases e; rfl
  | str x =>
    have e' : (if x.length ≤ sizeLine then some ((x.length : Int) != 0) else none) = some b := e
    by_cases hl : x.length ≤ sizeLine
    · rw [if_pos hl] at e'
      cases e'
      exact ⟨hl, rfl⟩
    · rw [if_neg hl] at e'
      cases e'
  | ty n => cases e
  | @tup a xs ds h1 h2 =>
    cases e
    exact .inr (.inl ⟨xs, .of h1, (isEmpty_vds h2).symm⟩)
  | @ref a n h1 =>
    have e' : (match S[n]? with
      | some (.lst xs) => some (!xs.isEmpty)
      | some (.rdl xs) => some (!xs.isEmpty)
      | some (.dk kvs) => some (!kvs.isEmpty)
      | _ => none) = some b := e
    cases q : S[n]? with
    | none => rw [q] at e'; cases e'
    | some o =>
      rw [q] at e'
      cases o with
      | lst xs =>
        cases e'
        obtain ⟨vs, h3, h4⟩ := lst_read (ds := xs) r h1 (by unfold lstAt; rw [q])
        exact .inl ⟨vs, h3, (isEmpty_vds h4).symm⟩
      | rdl xs =>
        cases e'
        obtain ⟨vs, h3, h4⟩ := lst_read (ds := xs) r h1 (by unfold lstAt; rw [q])
        exact .inl ⟨vs, h3, (isEmpty_vds h4).symm⟩
      | dk kvs =>
        cases e'
        obtain ⟨vs, h3, h4⟩ := r.at' n a _ h1 q
        refine .inr (.inr ⟨vs, h3, ?_⟩)
        cases h4 <;> rfl
      | _ => cases e'
  | gl h1 => cases e
section
variable {X : Cx} {W : WX} {a b c : Expr} {ma mb mc : Mx} {ta tb : Mb} {rest : List Expr} {pos : Pos}
theorem tb_of {σ : L2.St} {H : Hp} {Q : Bool → Hp → Prop} (h : tMT X.K X.mg W (mTB ma) σ H Q) : tM X.K X.mg W ma σ H fun x H1 => ∃ c, x = .bl c ∧ Q c H1 := by
  obtain ⟨β, S, ρ, rl, en, p⟩ := h
  refine ⟨β, S, ρ, rl, en, (show Po X.K X.mg W σ β H ((ma ρ S).bind _) _ from p).bind.mono fun d β1 S1 H1 x1 r1 q v hv => ?_⟩
  cases d with
  | bl b => cases hv; exact ⟨b, rfl, q β1 H1 .refl r1⟩
  | _ => exact q.elim
/-- a comparison, a call that gives a bool .. as a test -/
theorem mt_val (h : ME X W a ma) (he : ∀ whole, isTrue a X.env whole = (do let v ← whole; standAt a.pos; holding [v] (truthy v)) := by intro _; rfl) : MT X W a (mTB ma) :=
  ⟨PT.weak (pt_val h.pe he) fun σ H Q h => tb_of h⟩
theorem mt_tru (h : ME X W a ma) (he : ∀ whole, isTrue a X.env whole = (do let v ← whole; standAt a.pos; holding [v] (truthy v)) := by intro _; rfl) : MT X W a (mTru ma) := by
  refine ⟨PT.weak (pt_truth h.pe he) fun σ H Q ⟨β, S, ρ, rl, en, p⟩ => ?_⟩
  refine ⟨β, S, ρ, rl, en, (show Po X.K X.mg W σ β H ((ma ρ S).bind _) _ from p).bind.mono fun d β1 S1 H1 x1 r1 q v hv => ?_⟩
  cases e : truD d S1 with
  | none => rw [e] at q; exact q.elim
  | some b =>
    rw [e] at q
    exact ⟨b, tru_of r1 hv e, q β1 H1 .refl r1⟩
theorem mt_cmp {r : R2} {f : F2} {op : CmpOp} (ho : OpR X (compareOp op) r) (hf : Op2 X r f) (ha : ME X W a ma) (hb : ME X W b mb) (hm : behindInMarks op b = false) : MT X W (.Compare a [op] [b] pos) (mTB (mBin f ma mb)) :=
  ⟨PT.weak (pt_cmpR ho ha.pe hb.pe hm) fun σ H Q h => two_of hf (tb_of h)⟩
theorem mw_pt (h : MW X W a ta) : MT X W a ta := ⟨h.pw.pt⟩
theorem mw_and1 (h : MT X W a ta) : MW X W (.BoolOp .And [a] pos) ta := ⟨pw_and1 h.pt⟩
theorem mw_or1 (h : MT X W a ta) : MW X W (.BoolOp .Or [a] pos) ta := ⟨pw_or1 h.pt⟩
theorem and_of {σ : L2.St} {H : Hp} {Q : Bool → Hp → Prop} (h : tMT X.K X.mg W (mAnd ta tb) σ H Q) : tMT X.K X.mg W ta σ H fun c H1 => if c = true then tMT X.K X.mg W tb σ H1 Q else Q false H1 := by
  obtain ⟨β, S, ρ, rl, en, p⟩ := h
  refine ⟨β, S, ρ, rl, en, p.bind.mono fun c β1 S1 H1 x1 r1 q => ?_⟩
  cases c with
  | true => rw [if_pos rfl] at q ⊢; exact ⟨β1, S1, ρ, r1, en.ext x1, q⟩
  | false => rw [if_neg Bool.false_ne_true] at q ⊢; exact q β1 H1 .refl r1
theorem or_of {σ : L2.St} {H : Hp} {Q : Bool → Hp → Prop} (h : tMT X.K X.mg W (mOr ta tb) σ H Q) : tMT X.K X.mg W ta σ H fun c H1 => if c = true then Q true H1 else tMT X.K X.mg W tb σ H1 Q := by
  obtain ⟨β, S, ρ, rl, en, p⟩ := h
  refine ⟨β, S, ρ, rl, en, p.bind.mono fun c β1 S1 H1 x1 r1 q => ?_⟩
  cases c with
  | true => rw [if_pos rfl] at q ⊢; exact q β1 H1 .refl r1
  | false => rw [if_neg Bool.false_ne_true] at q ⊢; exact ⟨β1, S1, ρ, r1, en.ext x1, q⟩
theorem mw_and (ha : MT X W a ta) (hb : MW X W (.BoolOp .And (b :: rest) pos) tb) : MW X W (.BoolOp .And (a :: b :: rest) pos) (mAnd ta tb) := ⟨PW.weak (pw_and ha.pt hb.pw) fun _ _ _ h => and_of h⟩
theorem mw_or (ha : MT X W a ta) (hb : MW X W (.BoolOp .Or (b :: rest) pos) tb) : MW X W (.BoolOp .Or (a :: b :: rest) pos) (mOr ta tb) := ⟨PW.weak (pw_or ha.pt hb.pw) fun _ _ _ h => or_of h⟩
theorem mt_not (ha : MT X W a ta) : MT X W (.UnaryOp .Not a pos) (mNot ta) := by
  refine ⟨PT.weak (pt_not ha.pt) fun σ H Q ⟨β, S, ρ, rl, en, p⟩ => ?_⟩
  exact ⟨β, S, ρ, rl, en, p.bind.mono fun c β1 S1 H1 x1 r1 q => q β1 H1 .refl r1⟩
/-- as values -/
def mAndV (ma mb : Mx) : Mx := fun ρ S => (ma ρ S).bind fun d S1 => match truD d S1 with
  | some true => mb ρ S1
  | some false => .ok d S1
  | none => .stuck
def mOrV (ma mb : Mx) : Mx := fun ρ S => (ma ρ S).bind fun d S1 => match truD d S1 with
  | some true => .ok d S1
  | some false => mb ρ S1
  | none => .stuck
def mNotV (ma : Mx) : Mx := fun ρ S => (ma ρ S).bind fun d S1 => match truD d S1 with
  | some b => .ok (.bl (!b)) S1
  | none => .stuck
theorem me_one {op} (h : ME X W a ma) : ME X W (.BoolOp op [a] pos) ma := ⟨pe_one h.pe⟩
theorem me_and (ha : ME X W a ma) (hb : ME X W (.BoolOp .And (b :: rest) pos) mb) : ME X W (.BoolOp .And (a :: b :: rest) pos) (mAndV ma mb) := by
  refine ⟨PE.weak (pe_andT ha.pe hb.pe) fun σ H Q ⟨β, S, ρ, rl, en, p⟩ => ?_⟩
  refine ⟨β, S, ρ, rl, en, p.bind.mono fun d β1 S1 H1 x1 r1 q v hv => ?_⟩
  cases e : truD d S1 with
  | none => rw [e] at q; exact q.elim
  | some k =>
    rw [e] at q
    refine ⟨k, tru_of r1 hv e, ?_⟩
    cases k with
    | true => rw [if_pos rfl]; exact ⟨β1, S1, ρ, r1, en.ext x1, q⟩
    | false => rw [if_neg Bool.false_ne_true]; exact q β1 H1 .refl r1 v hv
theorem me_or (ha : ME X W a ma) (hb : ME X W (.BoolOp .Or (b :: rest) pos) mb) : ME X W (.BoolOp .Or (a :: b :: rest) pos) (mOrV ma mb) := by
  refine ⟨PE.weak (pe_orT ha.pe hb.pe) fun σ H Q ⟨β, S, ρ, rl, en, p⟩ => ?_⟩
  refine ⟨β, S, ρ, rl, en, p.bind.mono fun d β1 S1 H1 x1 r1 q v hv => ?_⟩
  cases e : truD d S1 with
  | none => rw [e] at q; exact q.elim
  | some k =>
    rw [e] at q
    refine ⟨k, tru_of r1 hv e, ?_⟩
    cases k with
    | true => rw [if_pos rfl]; exact q β1 H1 .refl r1 v hv
    | false => rw [if_neg Bool.false_ne_true]; exact ⟨β1, S1, ρ, r1, en.ext x1, q⟩
theorem me_not (ha : ME X W a ma) : ME X W (.UnaryOp .Not a pos) (mNotV ma) := by
  refine ⟨PE.weak (pe_notT ha.pe) fun σ H Q ⟨β, S, ρ, rl, en, p⟩ => ?_⟩
  refine ⟨β, S, ρ, rl, en, p.bind.mono fun d β1 S1 H1 x1 r1 q v hv => ?_⟩
  cases e : truD d S1 with
  | none => rw [e] at q; exact q.elim
  | some k =>
    rw [e] at q
    exact ⟨k, tru_of r1 hv e, q β1 H1 .refl r1 _ (.bl _)⟩
theorem me_if (hc : MT X W c ta) (ha : ME X W a ma) (hb : ME X W b mb) : ME X W (.IfExp c a b pos) (mIf ta ma mb) := by
  refine ⟨PE.weak (pe_ifExp hc.pt ha.pe hb.pe) fun σ H Q ⟨β, S, ρ, rl, en, p⟩ => ?_⟩
  refine ⟨β, S, ρ, rl, en, p.bind.mono fun k β1 S1 H1 x1 r1 q => ?_⟩
  cases k with
  | true => rw [if_pos rfl] at q ⊢; exact ⟨β1, S1, ρ, r1, en.ext x1, q⟩
  | false => rw [if_neg Bool.false_ne_true] at q ⊢; exact ⟨β1, S1, ρ, r1, en.ext x1, q⟩
end

/-! ### chains of two comparisons -/
def mChain (f g : F2) (ma mb mc : Mx) : Mx := fun ρ S => (ma ρ S).bind fun x S1 => (mb ρ S1).bind fun y S2 => (asB (R.ofO (f x y S2))).bind fun k S3 =>
  if k = true then (mc ρ S3).bind fun z S4 => R.ofO (g y z S4) else .ok (.bl false) S3
section
variable {X : Cx} {W : WX} {a b c : Expr} {ma mb mc : Mx} {pos : Pos}
theorem chain_of {r r' : R2} {f g : F2} (hf : Op2 X r f) (hg : Op2 X r' g) {σ : L2.St} {H : Hp} {Q : VK} (h : tM X.K X.mg W (mChain f g ma mb mc) σ H Q) :
    tChain r r' (tM X.K X.mg W ma) (tM X.K X.mg W mb) (tM X.K X.mg W mc) σ H Q := by
  obtain ⟨β, S, ρ, rl, en, p⟩ := h
  refine ⟨β, S, ρ, rl, en, p.bind.mono fun d β1 S1 H1 x1 r1 q v hv => ⟨β1, S1, ρ, r1, en.ext x1, q.bind.mono fun e β2 S2 H2 x2 r2 q2 u hu => ?_⟩⟩
  have q3 := q2.bind
  unfold asB at q3
  have q4 := q3.bind
  obtain ⟨z, S3, e3, k⟩ := q4.ofO
  refine hf β2 H2 S2 d e v u z S3 _ r2 (hv.ext x2) hu e3 fun β3 H3 w x3 r3 hw => ?_
  have k' := k β3 H3 x3 r3
  cases z with
  | bl t =>
    cases hw
    refine ⟨t, rfl, ?_⟩
    have k2 := k' β3 H3 .refl r3
    cases t with
    | true =>
      rw [if_pos rfl] at k2 ⊢
      refine ⟨β3, S3, ρ, r3, en.ext (x1.trans (x2.trans x3)), k2.bind.mono fun z4 β4 S4 H4 x4 r4 q5 w4 h4 => ?_⟩
      obtain ⟨z5, S5, e5, k5⟩ := q5.ofO
      exact hg β4 H4 S4 e z4 u w4 z5 S5 Q r4 (hu.ext (x3.trans x4)) h4 e5 fun β' H' w x r hw => k5 β' H' x r w hw
    | false =>
      rw [if_neg Bool.false_ne_true] at k2 ⊢
      exact k2 β3 H3 .refl r3 _ (.bl false)
  | _ => exact k'.elim
theorem me_chain {op op' : CmpOp} {r r' : R2} {f g : F2} (ho : OpR X (compareOp op) r) (hf : Op2 X r f) (ho' : OpR X (compareOp op') r') (hg : Op2 X r' g) (ha : ME X W a ma) (hb : ME X W b mb) (hc : ME X W c mc)
    (hm : lastMarks [op, op'] [b, c] = false := by with_unfolding_all rfl) : ME X W (.Compare a [op, op'] [b, c] pos) (mChain f g ma mb mc) := ⟨PE.weak (pe_chain ho ho' ha.pe hb.pe hc.pe hm) fun _ _ _ h => chain_of hf hg h⟩
theorem mt_chain {op op' : CmpOp} {r r' : R2} {f g : F2} (ho : OpR X (compareOp op) r) (hf : Op2 X r f) (ho' : OpR X (compareOp op') r') (hg : Op2 X r' g) (ha : ME X W a ma) (hb : ME X W b mb) (hc : ME X W c mc)
    (hm : lastMarks [op, op'] [b, c] = false := by with_unfolding_all rfl) : MT X W (.Compare a [op, op'] [b, c] pos) (mTB (mChain f g ma mb mc)) := ⟨PT.weak (pt_chain ho ho' ha.pe hb.pe hc.pe hm) fun _ _ _ h => chain_of hf hg (tb_of h)⟩
end

/-! ### argument lists, displays -/
def mNil : Ma := fun _ S => .ok [] S
def mCons (m : Mx) (mr : Ma) : Ma := fun ρ S => (m ρ S).bind fun d S1 => (mr ρ S1).bind fun ds S2 => .ok (d :: ds) S2
def mTup (m : Ma) : Mx := fun ρ S => (m ρ S).bind fun ds S1 => if ds.length ≤ sizeLine then .ok (.tup ds) S1 else .stuck
def newL (ds : List D) (S : Sto) : R D := if ds.length ≤ sizeLine then .ok (.ref S.length) (S ++ [.lst ds]) else .stuck
def mLst (m : Ma) : Mx := fun ρ S => (m ρ S).bind fun ds S1 => newL ds S1
section
variable {X : Cx} {W : WX} {e : Expr} {es : List Expr} {m : Mx} {mr : Ma} {pos : Pos}
theorem ma_nil : MA X W [] mNil := ⟨PA.weak pa_nil fun σ H Q ⟨β, S, ρ, rl, en, p⟩ => p β H .refl rl [] .nil⟩
theorem ma_cons (ha : ME X W e m) (hr : MA X W es mr) (hs : starEach (e :: es) X.env = (false, eval e X.env) :: starEach es X.env := by rfl) : MA X W (e :: es) (mCons m mr) := by
  refine ⟨PA.weak (pa_cons ha.pe hr.pa hs) fun σ H Q ⟨β, S, ρ, rl, en, p⟩ => ?_⟩
  refine ⟨β, S, ρ, rl, en, p.bind.mono fun d β1 S1 H1 x1 r1 q v hv => ⟨β1, S1, ρ, r1, en.ext x1, q.bind.mono fun ds β2 S2 H2 x2 r2 q2 vs hvs => ?_⟩⟩
  exact q2 β2 H2 .refl r2 (v :: vs) (.cons (hv.ext x2) hvs)
theorem me_tup {k} (h : MA X W es mr) : ME X W (.Tuple es k pos) (mTup mr) := by
  refine ⟨PE.weak (pe_tup h.pa) fun σ H Q ⟨β, S, ρ, rl, en, p⟩ => ?_⟩
  refine ⟨β, S, ρ, rl, en, p.bind.mono fun ds β1 S1 H1 x1 r1 q vs hvs => ?_⟩
  have hl := hvs.length
  split at q
  · rename_i hz
    exact ⟨by rw [hl]; exact hz, fun p hp => q β1 _ (xt_new' hp) (r1.tup hp) _ (.tup upd_same (hvs.ext (xt_new' hp)))⟩
  · exact q.elim
theorem newL_ok {K : PySem.W.Frag} {mg : Str → Option Value} {σ : L2.St} {β : List Addr} {H : Hp} {S : Sto} {ds : List D} {vs : List V} {G : D → List Addr → Sto → Hp → Prop} (r : Rl K mg β H S) (hv : Vds K mg β H vs ds) (p : Po K mg W σ β H (newL ds S) G) :
    vs.length ≤ sizeLine ∧ ∀ q, H q = none → ∃ β' S', Vd K mg β' (upd H q (.lst vs)) (.ref q) (.ref S.length) ∧ Xt K β H β' (upd H q (.lst vs)) ∧ Rl K mg β' (upd H q (.lst vs)) S' ∧ G (.ref S.length) β' S' (upd H q (.lst vs)) := by
  unfold newL at p
  split at p
  · rename_i hz
    refine ⟨by rw [hv.length]; exact hz, fun q hq => ?_⟩
    have x : Xt K β H (β ++ [q]) (upd H q (.lst vs)) := xt_new hq
    have r' : Rl K mg (β ++ [q]) (upd H q (.lst vs)) (S ++ [.lst ds]) := r.new hq ⟨vs, upd_same, hv.ext x⟩
    refine ⟨β ++ [q], S ++ [.lst ds], .ref ?_, x, r', p _ _ x r'⟩
    rw [← r.len, List.getElem?_append_right (Nat.le_refl _), Nat.sub_self]
    rfl
  · exact p.elim
theorem me_lst (h : MA X W es mr) : ME X W (.List es pos) (mLst mr) := by
  refine ⟨PE.weak (pe_lst h.pa) fun σ H Q ⟨β, S, ρ, rl, en, p⟩ => ?_⟩
  refine ⟨β, S, ρ, rl, en, p.bind.mono fun ds β1 S1 H1 x1 r1 q vs hvs => ?_⟩
  obtain ⟨h1, h2⟩ := newL_ok r1 hvs q
  refine ⟨h1, fun p hp => ?_⟩
  obtain ⟨β', S', v1, x2, r2, g⟩ := h2 p hp
  exact g _ v1
end
end Eng

/-! The engine, part 2: the operators' meanings. -/
namespace Eng
open PySem PySem.Spec PyProof.Rows L2
variable [TabCfg]

theorem OpR.or {X : Cx} {f : Value → Value → Sem Value} {r r' : R2} (h : OpR X f r) (h' : OpR X f r') : OpR X f (fun x y H Q => r x y H Q ∨ r' x y H Q) := by
  intro pins s σ H x y v u Q I rx ry q
  rcases q with q | q
  · exact h pins s σ H x y v u Q I rx ry q
  · exact h' pins s σ H x y v u Q I rx ry q
section
variable {X : Cx} {W : WX}
/-- a decision that no unfolding opens (the kernel must not count down from great numbers) -/
noncomputable def cdec (p : Prop) : Bool := @decide p (Classical.propDecidable p)
theorem cdec_of {p : Prop} (h : cdec p = true) : p := @of_decide_eq_true p (Classical.propDecidable p) h
theorem cdec_is {p : Prop} (h : p) : cdec p = true := @decide_eq_true p (Classical.propDecidable p) h
/-! ### whole numbers -/
/-- g where C -/
def fI (C : Int → Int → Bool) (g : Int → Int → D) : F2
  | .int i, .int j, S => if C i j = true then some (g i j, S) else none
  | _, _, _ => none
theorem op2_I {C : Int → Int → Prop} {c : Int → Int → Bool} {g : Int → Int → V} {g' : Int → Int → D} (hc : ∀ i j, c i j = true → C i j) (hg : ∀ i j β H, Vd X.K X.mg β H (g i j) (g' i j)) : Op2 X (rI C g) (fI c g') := by
  intro β H S x y v u d S' Q r hx hy e k
  cases x <;> cases y <;> first | (cases e; done) | skip
  rename_i i j
  cases hx; cases hy
  unfold fI at e
  dsimp only at e
  split at e
  · rename_i h
    cases e
    exact ⟨i, j, rfl, rfl, hc i j h, k β H _ .refl r (hg i j β H)⟩
  · cases e
def cT : Int → Int → Bool := fun _ _ => true
theorem op2_I0 {g : Int → Int → V} {g' : Int → Int → D} (hg : ∀ i j β H, Vd X.K X.mg β H (g i j) (g' i j)) : Op2 X (rI0 g) (fI cT g') := by
  intro β H S x y v u d S' Q r hx hy e k
  cases x <;> cases y <;> first | (cases e; done) | skip
  rename_i i j
  cases hx; cases hy
  unfold fI cT at e
  dsimp only at e
  rw [if_pos rfl] at e
  cases e
  exact ⟨i, j, rfl, rfl, k β H _ .refl r (hg i j β H)⟩
noncomputable def cPos (_ j : Int) : Bool := cdec (0 < j)
/-- a bound by figures, so that written numbers decide it -/
def big100 : Int := 10000000000000000000000000000000000000000000000000000000000000000000000000000000000000000000000000000
noncomputable def cDiv (_ j : Int) : Bool := cdec (0 < j) && cdec (j < big100)
theorem cDiv_ok {i j : Int} (h : cDiv i j = true) : CDivW i j := by
  unfold cDiv at h
  rw [Bool.and_eq_true] at h
  have h1 := cdec_of h.1
  have h2 := cdec_of h.2
  refine ⟨h1, ?_⟩
  have h3 : j.natAbs < 2 ^ 9000 := by
    have e : big100 < ((2 ^ 9000 : Nat) : Int) := by decide +kernel
    omega
  by_cases h0 : j.natAbs = 0
  · rw [h0]; decide
  · exact (Nat.log2_lt h0).mpr h3
noncomputable def in64 (i : Int) : Bool := cdec (-18446744073709551616 < i ∧ i < 18446744073709551616)
noncomputable def cMul1 (i j : Int) : Bool := in64 i || in64 j || cdec (i.natAbs.log2 + j.natAbs.log2 < 1000000)
noncomputable def cPow (i j : Int) : Bool := cdec (0 ≤ j ∧ j ≤ 1000000 ∧ i.natAbs < 2 ^ 64)
noncomputable def cShl (i j : Int) : Bool := cdec (0 ≤ j ∧ (Builtin.Int.intBits i : Int) + j ≤ 2 ^ 27)
noncomputable def cShr (_ j : Int) : Bool := cdec (0 ≤ j)
def fSub : F2 := fI cT fun i j => .int (i - j)
noncomputable def fDiv : F2 := fI cDiv fun i j => .int (i / j)
noncomputable def fMod : F2 := fI cPos fun i j => .int (i % j)
noncomputable def fPow : F2 := fI cPow fun i j => .int (i ^ j.toNat)
noncomputable def fShl : F2 := fI cShl fun i j => .int (i * 2 ^ j.toNat)
noncomputable def fShr : F2 := fI cShr fun i j => .int (i / 2 ^ j.toNat)
def fAnd : F2 := fI cT fun i j => .int (Builtin.bitAnd i j)
def fXor : F2 := fI cT fun i j => .int (Builtin.bitXor i j)
def fNeg : F1
  | .int i, S => some (.int (-i), S)
  | _, _ => none
variable {a b c : Expr} {ma mb mc : Mx} {pos : Pos}
theorem me_sub (ha : ME X W a ma) (hb : ME X W b mb) : ME X W (.BinOp a .Sub b pos) (mBin fSub ma mb) := me_bin op_sub (op2_I0 fun _ _ _ _ => .int _) ha hb
theorem me_div (ha : ME X W a ma) (hb : ME X W b mb) : ME X W (.BinOp a .FloorDiv b pos) (mBin fDiv ma mb) := me_bin op_fdivW (op2_I (fun i j h => cDiv_ok h) fun _ _ _ _ => .int _) ha hb
theorem me_mod (ha : ME X W a ma) (hb : ME X W b mb) : ME X W (.BinOp a .Mod b pos) (mBin fMod ma mb) := me_bin op_mod (op2_I (fun i j h => cdec_of h) fun _ _ _ _ => .int _) ha hb
theorem me_pow (ha : ME X W a ma) (hb : ME X W b mb) : ME X W (.BinOp a .Pow b pos) (mBin fPow ma mb) := me_bin op_pow (op2_I (fun i j h => cdec_of h) fun _ _ _ _ => .int _) ha hb
theorem me_shl (ha : ME X W a ma) (hb : ME X W b mb) : ME X W (.BinOp a .LShift b pos) (mBin fShl ma mb) := me_bin op_shlW (op2_I (fun i j h => cdec_of h) fun _ _ _ _ => .int _) ha hb
theorem me_shr (ha : ME X W a ma) (hb : ME X W b mb) : ME X W (.BinOp a .RShift b pos) (mBin fShr ma mb) := me_bin op_shr (op2_I (fun i j h => cdec_of h) fun _ _ _ _ => .int _) ha hb
theorem me_band (ha : ME X W a ma) (hb : ME X W b mb) : ME X W (.BinOp a .BitAnd b pos) (mBin fAnd ma mb) := me_bin op_and (op2_I0 fun _ _ _ _ => .int _) ha hb
theorem me_xor (ha : ME X W a ma) (hb : ME X W b mb) : ME X W (.BinOp a .BitXor b pos) (mBin fXor ma mb) := me_bin op_xor (op2_I0 fun _ _ _ _ => .int _) ha hb
theorem me_neg (ha : ME X W a ma) : ME X W (.UnaryOp .USub a pos) (mUn fNeg ma) := me_un un_neg (fun β H S x v d S' Q r hx e k => by
  cases x <;> first | (cases e; done) | skip
  rename_i i
  cases hx
  cases e
  exact ⟨i, rfl, k β H _ .refl r (.int _)⟩) ha
/-- * : whole numbers -/
theorem lt64 {i : Int} (h : i.natAbs < 2 ^ 64) : -(2 ^ 64) < i ∧ i < 2 ^ 64 := by omega
def CMul' (i j : Int) : Prop := CMul i j ∨ CMulW i j
theorem op_mul' {X : Cx} : OpR X (binaryOp .Mult) (rI CMul' fun i j => .int (i * j)) := by
  intro pins s σ H x y v u Q I rx ry ⟨i, j, e1, e2, hc, q⟩
  rcases hc with hc | hc
  · exact op_mul pins s σ H x y v u Q I rx ry ⟨i, j, e1, e2, hc, q⟩
  · exact op_mulW pins s σ H x y v u Q I rx ry ⟨i, j, e1, e2, hc, q⟩
theorem cMul1_ok {i j : Int} (h : cMul1 i j = true) : CMul' i j := by
  unfold cMul1 at h
  unfold in64 at h
  rw [Bool.or_eq_true, Bool.or_eq_true] at h
  rcases h with (h | h) | h
  · exact .inl (.inl (cdec_of h))
  · exact .inl (.inr (cdec_of h))
  · exact .inr (cdec_of h)
noncomputable def fMul : F2 := fI cMul1 fun i j => .int (i * j)
theorem me_mul (ha : ME X W a ma) (hb : ME X W b mb) : ME X W (.BinOp a .Mult b pos) (mBin fMul ma mb) := me_bin op_mul' (op2_I (fun i j h => cMul1_ok h) fun _ _ _ _ => .int _) ha hb
/-! ### + -/
def rAddAll (X : Cx) : R2 := fun x y H Q => (rI0 (fun i j => .int (i + j)) x y H Q ∨ (∃ i j, x = .str i ∧ y = .str j ∧ i.length + j.length ≤ sizeLine ∧ Q (.str (i ++ j)) H)) ∨ (rCatA X.K x y H Q ∨ rCat x y H Q)
theorem op_addAll : OpR X (binaryOp .Add) (rAddAll X) := OpR.or (OpR.or op_add op_add_str) (OpR.or op_catA op_cat)
def fAdd : F2
  | .int i, .int j, S => some (.int (i + j), S)
  | .str i, .str j, S => if i.length + j.length ≤ sizeLine then some (.str (i ++ j), S) else none
  | .tup xs, .tup ys, S => if xs.length + ys.length ≤ sizeLine then some (.tup (xs ++ ys), S) else none
  | .ref n, .ref m, S => match S[n]?, S[m]? with
    | some (.lst xs), some (.lst ys) => if xs.length + ys.length ≤ sizeLine then some (.ref S.length, S ++ [.lst (xs ++ ys)]) else none
    | _, _ => none
  | _, _, _ => none
theorem Rl.newL {K : PySem.W.Frag} {mg : Str → Option Value} {β : List Addr} {H : Hp} {S : Sto} {ds : List D} {vs : List V} (r : Rl K mg β H S) (hv : Vds K mg β H vs ds) {q : Addr} (hq : H q = none) :
    Xt K β H (β ++ [q]) (upd H q (.lst vs)) ∧ Rl K mg (β ++ [q]) (upd H q (.lst vs)) (S ++ [.lst ds]) ∧ Vd K mg (β ++ [q]) (upd H q (.lst vs)) (.ref q) (.ref S.length) := by
  have x : Xt K β H (β ++ [q]) (upd H q (.lst vs)) := xt_new hq
  refine ⟨x, r.new hq ⟨vs, upd_same, hv.ext x⟩, .ref ?_⟩
  rw [← r.len, List.getElem?_append_right (Nat.le_refl _), Nat.sub_self]
  rfl
theorem Rl.lst_at {K : PySem.W.Frag} {mg : Str → Option Value} {β : List Addr} {H : Hp} {S : Sto} {n : Nat} {a : Addr} {ds : List D} (r : Rl K mg β H S) (h : β[n]? = some a) (hs : S[n]? = some (.lst ds)) : ∃ xs, H a = some (.lst xs) ∧ Vds K mg β H xs ds := r.at' n a _ h hs
theorem op2_add : Op2 X (rAddAll X) fAdd := by
  intro β H S x y v u d S' Q r hx hy e k
  cases x <;> cases y <;> first | (cases e; done) | skip
  · rename_i i j
    cases hx; cases hy; cases e
    exact .inl (.inl ⟨i, j, rfl, rfl, k β H _ .refl r (.int _)⟩)
  · rename_i i j
    cases hx; cases hy
    unfold fAdd at e
    dsimp only at e
    split at e
    · rename_i h
      cases e
      exact .inl (.inr ⟨i, j, rfl, rfl, h, k β H _ .refl r (.str _)⟩)
    · cases e
  · rename_i xs ys
    obtain ⟨p, vs, rfl, h1, h2⟩ := hx.tup_at
    obtain ⟨q, us, rfl, h3, h4⟩ := hy.tup_at
    unfold fAdd at e
    dsimp only at e
    split at e
    · rename_i h
      cases e
      refine .inr (.inl ⟨p, q, vs, us, rfl, rfl, .of h1, .of h3, by rw [h2.length, h4.length]; exact h, fun z => ?_, fun z z2 => ?_, fun _ _ p' hp' => ?_⟩)
      · subst z
        cases h2
        exact k β H _ .refl r (.tup h3 h4)
      · subst z2
        cases h4
        rw [List.append_nil] at k
        exact k β H _ .refl r (.tup h1 h2)
      · exact k β _ _ (xt_new' hp') (r.tup hp') (.tup upd_same ((h2.append h4).ext (xt_new' hp')))
    · cases e
  · rename_i n m
    obtain ⟨p, rfl, h1⟩ := hx.ref_inv
    obtain ⟨q, rfl, h2⟩ := hy.ref_inv
    unfold fAdd at e
    dsimp only at e
    split at e
    · rename_i xs ys e1 e2
      split at e
      · rename_i h
        cases e
        obtain ⟨vs, h3, h4⟩ := r.lst_at h1 e1
        obtain ⟨us, h5, h6⟩ := r.lst_at h2 e2
        refine .inr (.inr ⟨p, q, vs, us, rfl, rfl, h3, h5, by rw [h4.length, h6.length]; exact h, fun p' hp' => ?_⟩)
        obtain ⟨x1, r1, v1⟩ := r.newL (h4.append h6) hp'
        exact k _ _ _ x1 r1 v1
      · cases e
    · cases e
theorem me_add (ha : ME X W a ma) (hb : ME X W b mb) : ME X W (.BinOp a .Add b pos) (mBin fAdd ma mb) := me_bin op_addAll op2_add ha hb
/-! ### order of whole numbers -/
def fLt : F2 := fI cT fun i j => .bl (decide (i < j))
def fLe : F2 := fI cT fun i j => .bl (decide (i ≤ j))
def fGt : F2 := fI cT fun i j => .bl (decide (j < i))
def fGe : F2 := fI cT fun i j => .bl (decide (j ≤ i))
theorem o_lt : Op2 X (rI0 fun i j => .bl (decide (i < j))) fLt := op2_I0 fun _ _ _ _ => .bl _
theorem o_le : Op2 X (rI0 fun i j => .bl (decide (i ≤ j))) fLe := op2_I0 fun _ _ _ _ => .bl _
theorem o_gt : Op2 X (rI0 fun i j => .bl (decide (j < i))) fGt := op2_I0 fun _ _ _ _ => .bl _
theorem o_ge : Op2 X (rI0 fun i j => .bl (decide (j ≤ i))) fGe := op2_I0 fun _ _ _ _ => .bl _
/-! ### is None, is True, is False -/
def rIsA : R2 := fun x y H Q => (y = .non ∧ Q (.bl (decide (x = .non))) H) ∨ (∃ a b, x = .bl a ∧ y = .bl b ∧ Q (.bl (decide (a = b))) H)
def rIsNA : R2 := fun x y H Q => (y = .non ∧ Q (.bl (!decide (x = .non))) H) ∨ (∃ a b, x = .bl a ∧ y = .bl b ∧ Q (.bl (!decide (a = b))) H)
def isNon : D → Bool
  | .non => true
  | _ => false
def fIs : F2
  | x, .non, S => some (.bl (isNon x), S)
  | .bl a, .bl b, S => some (.bl (decide (a = b)), S)
  | _, _, _ => none
def fIsN : F2
  | x, .non, S => some (.bl (!isNon x), S)
  | .bl a, .bl b, S => some (.bl (!decide (a = b)), S)
  | _, _, _ => none
theorem isNon_of {K : PySem.W.Frag} {mg : Str → Option Value} {β : List Addr} {H : Hp} {v : V} {d : D} (h : Vd K mg β H v d) : decide (v = .non) = isNon d := by cases h <;> rfl
theorem op_isA : OpR X (compareOp .Is) rIsA := OpR.or op_isN op_is_bl
theorem op_isNA : OpR X (compareOp .IsNot) rIsNA := OpR.or op_notN op_isnot_bl
theorem o_is : Op2 X rIsA fIs := by
  intro β H S x y v u d S' Q r hx hy e k
  cases y
  · cases hy
    have e' : some (D.bl (isNon x), S) = some (d, S') := by
      rw [← e]
      cases x <;> rfl
    cases e'
    exact .inl ⟨rfl, by rw [isNon_of hx]; exact k β H _ .refl r (.bl _)⟩
  · cases x <;> first | (cases e; done) | skip
    cases hx; cases hy; cases e
    exact .inr ⟨_, _, rfl, rfl, k β H _ .refl r (.bl _)⟩
  all_goals (cases x <;> cases e)
theorem o_isN : Op2 X rIsNA fIsN := by
  intro β H S x y v u d S' Q r hx hy e k
  cases y
  · cases hy
    have e' : some (D.bl (!isNon x), S) = some (d, S') := by
      rw [← e]
      cases x <;> rfl
    cases e'
    exact .inl ⟨rfl, by rw [isNon_of hx]; exact k β H _ .refl r (.bl _)⟩
  · cases x <;> first | (cases e; done) | skip
    cases hx; cases hy; cases e
    exact .inr ⟨_, _, rfl, rfl, k β H _ .refl r (.bl _)⟩
  all_goals (cases x <;> cases e)
/-! ### ==, != : data of any depth -/
mutual
def toPy (S : Sto) : Nat → D → Option PyData
  | _, .non => some .none
  | _, .bl b => some (.bool b)
  | _, .int i => some (.int i)
  | _, .str x => some (.str x)
  | 0, .tup _ => none
  | n + 1, .tup ds => (toPys S n ds).map .tuple
  | 0, .ref _ => none
  | n + 1, .ref m => match lstAt S m with
    | some ds => (toPys S n ds).map .list
    | none => none
  | _, _ => none
def toPys (S : Sto) : Nat → List D → Option (List PyData)
  | _, [] => some []
  | n, d :: ds => match toPy S n d, toPys S n ds with
    | some p, some ps => some (p :: ps)
    | _, _ => none
end
end
section
variable {K : PySem.W.Frag} {mg : Str → Option Value} {β : List Addr} {H : Hp} {S : Sto}
mutual
theorem toPy_ok (r : Rl K mg β H S) : ∀ (n : Nat) (d : D) (v : V) (p : PyData), Vd K mg β H v d → toPy S n d = some p → Dp K H v p
  | n, .non, _, _, .non, e => by
    unfold toPy at e; cases e; exact .non
  | n, .bl b, _, _, .bl _, e => by
    unfold toPy at e; cases e; exact .bl b
  | n, .int i, _, _, .int _, e => by
    unfold toPy at e; cases e; exact .int i
  | n, .str x, _, _, .str _, e => by
    unfold toPy at e; cases e; exact .str x
  | 0, .tup ds, _, _, _, e => by unfold toPy at e; cases e
  | n + 1, .tup ds, _, _, .tup h1 h2, e => by
    unfold toPy at e
    cases q : toPys S n ds with
    | none => rw [q] at e; cases e
    | some ps => rw [q] at e; cases e; exact .tup (.of h1) (toPys_ok r n ds _ ps h2 q)
  | 0, .ref m, _, _, _, e => by unfold toPy at e; cases e
  | n + 1, .ref m, _, _, .ref h1, e => by
    unfold toPy at e
    cases q : lstAt S m with
    | none => rw [q] at e; cases e
    | some ds =>
      rw [q] at e
      dsimp only at e
      obtain ⟨vs, h3, h4⟩ := lst_read r h1 q
      cases q2 : toPys S n ds with
      | none => rw [q2] at e; cases e
      | some ps => rw [q2] at e; cases e; exact .lst h3 (toPys_ok r n ds _ ps h4 q2)
  | n, .ty _, _, _, _, e => by unfold toPy at e; cases e
  | n, .gl _, _, _, _, e => by unfold toPy at e; cases e
theorem toPys_ok (r : Rl K mg β H S) : ∀ (n : Nat) (ds : List D) (vs : List V) (ps : List PyData), Vds K mg β H vs ds → toPys S n ds = some ps → DpAll K H vs ps
  | n, [], _, _, .nil, e => by
    unfold toPys at e; cases e; exact .nil
  | n, d :: ds, _, _, .cons h t, e => by
    unfold toPys at e
    cases q1 : toPy S n d with
    | none => rw [q1] at e; cases e
    | some p =>
      cases q2 : toPys S n ds with
      | none => rw [q1, q2] at e; cases e
      | some ps =>
        rw [q1, q2] at e
        cases e
        exact .cons (toPy_ok r n d _ p h q1) (toPys_ok r n ds _ ps t q2)
end
end

/-- pairs of scalars that are told apart at once -/
def scalEq : D → D → Option Bool
  | .non, .non => some true
  | .int i, .int j => some (decide (i = j))
  | .bl a, .bl b => some (decide (a = b))
  | .str a, .str b => some (decide (a = b))
  | .non, .int _ => some false | .int _, .non => some false
  | .non, .bl _ => some false | .bl _, .non => some false
  | .non, .str _ => some false | .str _, .non => some false
  | .int _, .str _ => some false | .str _, .int _ => some false
  | .bl _, .str _ => some false | .str _, .bl _ => some false
  | _, _ => none
def deepEq (S : Sto) (x y : D) : Option Bool := match toPy S 64 x, toPy S 64 y with
  | some p, some q => if (SeqAt.shaped p && SeqAt.shaped q) = true then some (PyData.eqv p q) else none
  | _, _ => none
def eqD (S : Sto) (x y : D) : Option Bool := match scalEq x y with
  | some b => some b
  | none => deepEq S x y
def fEq : F2 := fun x y S => (eqD S x y).map fun b => (.bl b, S)
def fNe : F2 := fun x y S => (eqD S x y).map fun b => (.bl (!b), S)
def rEqA (X : Cx) : R2 := fun x y H Q => rEq x y H Q ∨ rEqD X.K x y H Q
def rNeA (X : Cx) : R2 := fun x y H Q => rNe x y H Q ∨ rNeD X.K x y H Q
theorem scalEq_ok {K : PySem.W.Frag} {mg : Str → Option Value} {β : List Addr} {H : Hp} {v u : V} {x y : D} {b : Bool} (hx : Vd K mg β H v x) (hy : Vd K mg β H u y) (e : scalEq x y = some b) : scal v u = true ∧ decide (v = u) = b := by
  cases hx <;> cases hy <;> first | (cases e; done) | skip
  all_goals (first
    | (cases e; exact ⟨rfl, rfl⟩)
    | (have e' := Option.some.inj e; rw [← e']; refine ⟨rfl, ?_⟩; simp))
theorem deepEq_ok {K : PySem.W.Frag} {mg : Str → Option Value} {β : List Addr} {H : Hp} {S : Sto} {v u : V} {x y : D} {b : Bool} (r : Rl K mg β H S) (hx : Vd K mg β H v x) (hy : Vd K mg β H u y) (e : deepEq S x y = some b) :
    ∃ d e, Dp K H v d ∧ Dp K H u e ∧ SeqAt.shaped d = true ∧ SeqAt.shaped e = true ∧ PyData.eqv d e = b := by
  unfold deepEq at e
  cases q1 : toPy S 64 x with
  | none => rw [q1] at e; cases e
  | some p =>
    cases q2 : toPy S 64 y with
    | none => rw [q1, q2] at e; cases e
    | some q =>
      rw [q1, q2] at e
      dsimp only at e
      split at e
      · rename_i hs
        rw [Bool.and_eq_true] at hs
        exact ⟨p, q, toPy_ok r 64 x v p hx q1, toPy_ok r 64 y u q hy q2, hs.1, hs.2, Option.some.inj e⟩
      · cases e
section
variable {X : Cx} {W : WX} {a b c : Expr} {ma mb mc : Mx} {pos : Pos}
theorem o_eq : Op2 X (rEqA X) fEq := by
  intro β H S x y v u d S' Q r hx hy e k
  unfold fEq eqD at e
  cases q : scalEq x y with
  | some t =>
    rw [q] at e
    cases e
    obtain ⟨h1, h2⟩ := scalEq_ok hx hy q
    exact .inl ⟨h1, by rw [h2]; exact k β H _ .refl r (.bl _)⟩
  | none =>
    rw [q] at e
    dsimp only at e
    cases q2 : deepEq S x y with
    | none => rw [q2] at e; cases e
    | some t =>
      rw [q2] at e
      cases e
      obtain ⟨p, p', h1, h2, h3, h4, h5⟩ := deepEq_ok r hx hy q2
      exact .inr ⟨p, p', h1, h2, h3, h4, by rw [h5]; exact k β H _ .refl r (.bl _)⟩
theorem o_ne : Op2 X (rNeA X) fNe := by
  intro β H S x y v u d S' Q r hx hy e k
  unfold fNe eqD at e
  cases q : scalEq x y with
  | some t =>
    rw [q] at e
    cases e
    obtain ⟨h1, h2⟩ := scalEq_ok hx hy q
    exact .inl ⟨h1, by rw [h2]; exact k β H _ .refl r (.bl _)⟩
  | none =>
    rw [q] at e
    dsimp only at e
    cases q2 : deepEq S x y with
    | none => rw [q2] at e; cases e
    | some t =>
      rw [q2] at e
      cases e
      obtain ⟨p, p', h1, h2, h3, h4, h5⟩ := deepEq_ok r hx hy q2
      exact .inr ⟨p, p', h1, h2, h3, h4, by rw [h5]; exact k β H _ .refl r (.bl _)⟩
theorem op_eqA {k : Nat} (hr : Room k X.A) : OpR X (compareOp .Eq) (rEqA X) := OpR.or op_eq (op_eqD hr.units)
theorem op_neA {k : Nat} (hr : Room k X.A) : OpR X (compareOp .NotEq) (rNeA X) := OpR.or op_ne (op_neD hr.units)

/-! ### subscripts -/
def fIx : F2
  | .tup xs, .int i, S => (atI xs i).map fun d => (d, S)
  | .ref n, .int i, S => match lstAt S n with
    | some xs => (atI xs i).map fun d => (d, S)
    | none => none
  | .str z, .int i, S => if z.length ≤ sizeLine then (atI z.cps.toList i).map fun c => (.str ⟨#[c]⟩, S) else none
  | _, _, _ => none
theorem atI_vds {K : PySem.W.Frag} {mg : Str → Option Value} {β : List Addr} {H : Hp} {vs : List V} {ds : List D} {i : Int} {d : D} (h : Vds K mg β H vs ds) (e : atI ds i = some d) : ∃ v, atI vs i = some v ∧ Vd K mg β H v d := by
  unfold atI at e ⊢
  rw [h.length]
  cases q : ixN ds.length i with
  | none => rw [q] at e; cases e
  | some j =>
    rw [q] at e
    exact h.get e
theorem o_ix : Op2 X (rIx X.K) fIx := by
  intro β H S x y v u d S' Q r hx hy e k
  cases y <;> (cases x <;> first | (cases e; done) | skip)
  · rename_i i z
    cases hx; cases hy
    unfold fIx at e
    dsimp only at e
    split at e
    · rename_i hz
      cases q : atI z.cps.toList i with
      | none => rw [q] at e; cases e
      | some c =>
        rw [q] at e
        cases e
        exact .inr (.inr ⟨z, i, c, rfl, rfl, hz, q, k β H _ .refl r (.str _)⟩)
    · cases e
  · rename_i i xs
    cases hy
    obtain ⟨p, vs, rfl, h1, h2⟩ := hx.tup_inv
    have e' : (atI xs i).map (fun d => (d, S)) = some (d, S') := e
    cases q : atI xs i with
    | none => rw [q] at e'; cases e'
    | some c =>
      rw [q] at e'
      cases e'
      obtain ⟨w, h3, h4⟩ := atI_vds h2 q
      exact .inr (.inl ⟨p, vs, i, w, rfl, rfl, h1, h3, k β H _ .refl r h4⟩)
  · rename_i i n
    cases hy
    obtain ⟨p, rfl, h1⟩ := hx.ref_inv
    unfold fIx at e
    dsimp only at e
    cases q : lstAt S n with
    | none => rw [q] at e; cases e
    | some xs =>
      rw [q] at e
      dsimp only at e
      cases q2 : atI xs i with
      | none => rw [q2] at e; cases e
      | some c =>
        rw [q2] at e
        cases e
        obtain ⟨vs, h3, h4⟩ := lst_read r h1 q
        obtain ⟨w, h5, h6⟩ := atI_vds h4 q2
        exact .inl ⟨p, vs, i, w, rfl, rfl, h3, h5, k β H _ .refl r h6⟩
theorem me_ix (ha : ME X W a ma) (hb : ME X W b mb) (hs : PlainIx b := by exact fun _ _ => rfl) : ME X W (.Subscript a b pos) (mBin fIx ma mb) :=
  ⟨PE.weak (pe_ix ix_seq ha.pe hb.pe hs) fun _ _ _ h => two_of o_ix h⟩
/-! ### slices -/
abbrev Mo := Env' → Sto → R (Option Int)
def tMO (K : PySem.W.Frag) (mg : Str → Option Value) (W : WX) (m : Mo) : TO := fun σ H Q => ∃ β S ρ, Rl K mg β H S ∧ En K mg β H ρ σ ∧ Po K mg W σ β H (m ρ S) fun o _ _ H' => Q o H'
structure MO (X : Cx) (W : WX) (o : Option Expr) (m : Mo) : Prop where
  po : PO X o (tMO X.K X.mg W m)
theorem PO.weak {X : Cx} {e : Option Expr} {t t' : TO} (h : PO X e t) (i : ∀ σ H Q, t' σ H Q → t σ H Q) : PO X e t' := ⟨fun pins s σ H Q I q => h.run pins s σ H Q I (i σ H Q q)⟩
def mO0 : Mo := fun _ S => .ok none S
def mO1 (m : Mx) : Mo := fun ρ S => (m ρ S).bind fun d S1 => match d with
  | .int i => .ok (some i) S1
  | _ => .stuck
theorem mo_none : MO X W none mO0 := ⟨PO.weak po_none fun σ H Q ⟨β, S, ρ, rl, en, p⟩ => p β H .refl rl⟩
theorem mo_some (ha : ME X W a ma) : MO X W (some a) (mO1 ma) := by
  refine ⟨PO.weak (po_some ha.pe) fun σ H Q ⟨β, S, ρ, rl, en, p⟩ => ?_⟩
  refine ⟨β, S, ρ, rl, en, (show Po X.K X.mg W σ β H ((ma ρ S).bind _) _ from p).bind.mono fun d β1 S1 H1 x1 r1 q v hv => ?_⟩
  cases d with
  | int i => cases hv; exact ⟨i, rfl, q β1 H1 .refl r1⟩
  | _ => exact q.elim
def cutD {α : Type} (xs : List α) (lo hi : Option Int) : List α := (xs.drop (HT.sIx xs.length 0 lo)).take (HT.sIx xs.length xs.length hi - HT.sIx xs.length 0 lo)
def slD (d : D) (lo hi : Option Int) (S : Sto) : R D := match d with
  | .str z => if z.length ≤ sizeLine then .ok (.str (cutS z lo hi)) S else .stuck
  | .tup xs => .ok (.tup (cutD xs lo hi)) S
  | .ref n => match lstAt S n with
    | some xs => .ok (.ref S.length) (S ++ [.lst (cutD xs lo hi)])
    | none => .stuck
  | _ => .stuck
def mSl (m : Mx) (ml mh : Mo) : Mx := fun ρ S => (m ρ S).bind fun d S1 => (ml ρ S1).bind fun lo S2 => (mh ρ S2).bind fun hi S3 => slD d lo hi S3
def rSlAll (K : PySem.W.Frag) : V → Option Int → Option Int → Hp → VK → Prop := fun x lo hi H Q => (rSlS x lo hi H Q ∨ L2.rSlA K x lo hi H Q) ∨ rSlL K x lo hi H Q
theorem cut_vds {K : PySem.W.Frag} {mg : Str → Option Value} {β : List Addr} {H : Hp} {vs : List V} {ds : List D} (h : Vds K mg β H vs ds) (lo hi : Option Int) : Vds K mg β H (cutV vs lo hi) (cutD ds lo hi) := by
  unfold cutV cutD
  rw [h.length]
  exact (h.drop _).take _
theorem me_slice {lo hi : Option Expr} {p2 : Pos} {ml mh : Mo} (ha : ME X W a ma) (hl : MO X W lo ml) (hh : MO X W hi mh) : ME X W (.Subscript a (.Slice lo hi none p2) pos) (mSl ma ml mh) := by
  refine ⟨PE.weak (pe_slice (r := rSlAll X.K) (SlR.or (SlR.or sl_str sl_tupA) sl_list) ha.pe hl.po hh.po) fun σ H Q ⟨β, S, ρ, rl, en, p⟩ => ?_⟩
  refine ⟨β, S, ρ, rl, en, p.bind.mono fun d β1 S1 H1 x1 r1 q v hv => ⟨β1, S1, ρ, r1, en.ext x1, q.bind.mono fun l β2 S2 H2 x2 r2 q2 => ⟨β2, S2, ρ, r2, en.ext (x1.trans x2), q2.bind.mono fun h β3 S3 H3 x3 r3 q3 => ?_⟩⟩⟩
  have hv3 := hv.ext (x2.trans x3)
  cases d with
  | str z =>
    cases hv3
    unfold slD at q3
    dsimp only at q3
    split at q3
    · rename_i hz
      exact .inl (.inl ⟨z, rfl, hz, q3 β3 H3 .refl r3 _ (.str _)⟩)
    · exact q3.elim
  | tup xs =>
    obtain ⟨p, vs, rfl, h1, h2⟩ := hv3.tup_at
    refine .inl (.inr ⟨p, vs, rfl, .of h1, fun hw => ?_, fun hw p' hp' => ?_⟩)
    · have e : cutD xs l h = xs := by
        rw [h2.length] at hw
        unfold cutD
        rw [hw.1, hw.2, List.drop_zero, Nat.sub_zero, List.take_length]
      refine q3 β3 H3 .refl r3 _ ?_
      rw [e]
      exact .tup h1 h2
    · exact q3 β3 _ (xt_new' hp') (r3.tup hp') _ (.tup upd_same ((cut_vds h2 l h).ext (xt_new' hp')))
  | ref n =>
    obtain ⟨p, rfl, h1⟩ := hv3.ref_inv
    unfold slD at q3
    dsimp only at q3
    cases e : lstAt S3 n with
    | none => rw [e] at q3; exact q3.elim
    | some xs =>
      rw [e] at q3
      obtain ⟨vs, h2, h3⟩ := lst_read r3 h1 e
      refine .inr ⟨p, vs, rfl, h2, fun p' hp' => ?_⟩
      obtain ⟨x4, r4, v4⟩ := r3.newL (cut_vds h3 l h) hp'
      exact q3 _ _ x4 r4 _ v4
  | _ => exact q3.elim
end
end Eng

/-! The engine, part 3: statements, loops, defs and their calls. -/
namespace Eng
open PySem PySem.Spec PyProof.Rows L2
variable [TabCfg]

inductive Fl where
  | nx (ρ : Env')
  | rt (d : D)
inductive RS where
  | fl (f : Fl) (S : Sto)
  | ex (x : Exn) (ρ : Env') (S : Sto)
  | stuck
abbrev Ms := Env' → Sto → RS
def R.st {α : Type} (r : R α) (ρ : Env') (k : α → Sto → RS) : RS := match r with
  | .ok a S => k a S
  | .ex x S => .ex x ρ S
  | .stuck => .stuck
section
variable (K : PySem.W.Frag) (mg : Str → Option Value)
def PoS (W : WX) (β : List Addr) (H : Hp) (r : RS) (D : Ends) : Prop := match r with
  | .fl (.nx ρ) S => ∀ β' H' σ', Xt K β H β' H' → Rl K mg β' H' S → En K mg β' H' ρ σ' → D.nx σ' H'
  | .fl (.rt d) S => ∀ β' H' v, Xt K β H β' H' → Rl K mg β' H' S → Vd K mg β' H' v d → D.rt v H'
  | .ex x ρ S => ∀ cls od β' H' σ', Xt K β H β' H' → Rl K mg β' H' S → En K mg β' H' ρ σ' → Xd K mg β' H' cls od x → W cls od σ' H'
  | .stuck => False
def tMS (W : WX) (m : Ms) : TS := fun D σ H => ∃ β S ρ, Rl K mg β H S ∧ En K mg β H ρ σ ∧ PoS K mg W β H (m ρ S) D
end
section
variable {K : PySem.W.Frag} {mg : Str → Option Value} {W : WX} {σ : L2.St} {β β1 : List Addr} {H H1 : Hp} {α : Type} {ρ : Env'} {Z Z' : Ends}
theorem PoS.xt {r : RS} (h : PoS K mg W β H r Z) (x : Xt K β H β1 H1) : PoS K mg W β1 H1 r Z := by
  cases r with
  | fl f S =>
    cases f with
    | nx ρ => exact fun β' H' σ' y => h β' H' σ' (x.trans y)
    | rt d => exact fun β' H' v y => h β' H' v (x.trans y)
  | ex e ρ S => exact fun cls od β' H' σ' y => h cls od β' H' σ' (x.trans y)
  | stuck => exact h
/-- the same outcome towards other ends -/
theorem PoS.to {r : RS} (h : PoS K mg W β H r Z) (hn : ∀ ρ S, r = .fl (.nx ρ) S → ∀ β' H' σ', Xt K β H β' H' → Rl K mg β' H' S → En K mg β' H' ρ σ' → Z'.nx σ' H') (hr : Z'.rt = Z.rt) : PoS K mg W β H r Z' := by
  cases r with
  | fl f S =>
    cases f with
    | nx ρ => exact hn ρ S rfl
    | rt d => exact fun β' H' v y r q => by rw [hr]; exact h β' H' v y r q
  | ex e ρ S => exact h
  | stuck => exact h
theorem PoS.st {r : R α} {k : α → Sto → RS} (h : PoS K mg W β H (r.st ρ k) Z) (en : En K mg β H ρ σ) : Po K mg W σ β H r fun d β' S H' => PoS K mg W β' H' (k d S) Z := by
  cases r with
  | ok d S => exact fun β' H' y r => PoS.xt (show PoS K mg W β H (k d S) Z from h) y
  | ex e S => exact fun cls od β' H' y r q => h cls od β' H' σ y r (en.ext y) q
  | stuck => exact h
theorem En.set (e : En K mg β H ρ σ) (i : Nat) {v : V} {d : D} (h : Vd K mg β H v d) : En K mg β H (ρ.set i (some d)) (σ.set i (some v)) := by
  refine ⟨by rw [List.length_set, List.length_set]; exact e.len, fun j d' q => ?_⟩
  by_cases hj : i = j
  · subst hj
    by_cases hl : i < ρ.length
    · rw [List.getElem?_set_self hl] at q
      cases q
      exact ⟨v, by rw [List.getElem?_set_self (by rw [← e.len]; exact hl)], h⟩
    · rw [List.getElem?_eq_none (by rw [List.length_set]; omega)] at q
      cases q
  · rw [List.getElem?_set_ne hj] at q ⊢
    exact e.at' j d' q
end
structure MS (X : Cx) (W : WX) (s : Stmt) (m : Ms) : Prop where
  ps : PS X s (tMS X.K X.mg W m)
structure MSs (X : Cx) (W : WX) (s : List Stmt) (m : Ms) : Prop where
  ps : PSs X s (tMS X.K X.mg W m)
theorem PS.weak {X : Cx} {e : Stmt} {t t' : TS} (h : PS X e t) (i : ∀ D σ H, t' D σ H → t D σ H) : PS X e t' := ⟨fun pins s σ H D I q => h.run pins s σ H D I (i D σ H q)⟩
theorem PSs.weak {X : Cx} {e : List Stmt} {t t' : TS} (h : PSs X e t) (i : ∀ D σ H, t' D σ H → t D σ H) : PSs X e t' := ⟨fun pins s σ H D I q => h.run pins s σ H D I (i D σ H q)⟩

def sSkip : Ms := fun ρ S => .fl (.nx ρ) S
def sSeq (a b : Ms) : Ms := fun ρ S => match a ρ S with
  | .fl (.nx ρ') S' => b ρ' S'
  | r => r
def sExpr (m : Mx) : Ms := fun ρ S => (m ρ S).st ρ fun _ S1 => .fl (.nx ρ) S1
def sRet (m : Mx) : Ms := fun ρ S => (m ρ S).st ρ fun d S1 => .fl (.rt d) S1
def sRetN : Ms := fun ρ S => .fl (.rt .non) S
def sIf (c : Mb) (a b : Ms) : Ms := fun ρ S => (c ρ S).st ρ fun k S1 => if k = true then a ρ S1 else b ρ S1
def sAsg (i : Nat) (m : Mx) : Ms := fun ρ S => (m ρ S).st ρ fun d S1 => .fl (.nx (ρ.set i (some d))) S1
section
variable {X : Cx} {W : WX} {st : Stmt} {rest : List Stmt} {a b : Ms} {e c : Expr} {m : Mx} {mc : Mb} {pos : Pos}
theorem ms_nil : MSs X W [] sSkip := ⟨PSs.weak pss_nil fun D σ H ⟨β, S, ρ, rl, en, p⟩ => p β H σ .refl rl en⟩
theorem ms_one (h : MS X W st a) : MSs X W [st] a := ⟨pss_one h.ps⟩
theorem ms_cons (h1 : MS X W st a) (h2 : MSs X W rest b) : MSs X W (st :: rest) (sSeq a b) := by
  refine ⟨PSs.weak (pss_cons h1.ps h2.ps) fun D σ H ⟨β, S, ρ, rl, en, p⟩ => ⟨β, S, ρ, rl, en, ?_⟩⟩
  unfold sSeq at p
  cases q : a ρ S with
  | fl f S1 =>
    rw [q] at p
    cases f with
    | nx ρ1 => exact fun β' H' σ' x r en' => ⟨β', S1, ρ1, r, en', p.xt x⟩
    | rt d => exact p
  | ex x ρ1 S1 => rw [q] at p; exact p
  | stuck => rw [q] at p; exact p
theorem ms_pass : MS X W (.Pass pos) sSkip := ⟨PS.weak ps_pass fun D σ H ⟨β, S, ρ, rl, en, p⟩ => p β H σ .refl rl en⟩
theorem ms_doc {x j pos'} : MS X W (.Expr (.Constant (.str x) j pos) pos') sSkip := ⟨PS.weak ps_doc fun D σ H ⟨β, S, ρ, rl, en, p⟩ => p β H σ .refl rl en⟩
theorem ms_expr (h : ME X W e m) (hs : swapsWith e none pos.line X.env = pure false := by rfl) : MS X W (.Expr e pos) (sExpr m) := by
  refine ⟨PS.weak (ps_expr h.pe hs) fun D σ H ⟨β, S, ρ, rl, en, p⟩ => ⟨β, S, ρ, rl, en, (p.st en).mono fun d β1 S1 H1 x1 r1 q v hv => ?_⟩⟩
  exact q β1 H1 σ .refl r1 (en.ext x1)
theorem ms_ret (h : ME X W e m) : MS X W (.Return (some e) pos) (sRet m) := by
  refine ⟨PS.weak (ps_ret h.pe) fun D σ H ⟨β, S, ρ, rl, en, p⟩ => ⟨β, S, ρ, rl, en, (p.st en).mono fun d β1 S1 H1 x1 r1 q v hv => ?_⟩⟩
  exact q β1 H1 v .refl r1 hv
theorem ms_retN : MS X W (.Return none pos) sRetN := ⟨PS.weak ps_retN fun D σ H ⟨β, S, ρ, rl, en, p⟩ => p β H .non .refl rl .non⟩
theorem ms_if {p q : List Stmt} (hc : MT X W c mc) (ha : MSs X W p a) (hb : MSs X W q b) : MS X W (.If c p q pos) (sIf mc a b) := by
  refine ⟨PS.weak (ps_if hc.pt ha.ps hb.ps) fun D σ H ⟨β, S, ρ, rl, en, p⟩ => ⟨β, S, ρ, rl, en, (p.st en).mono fun k β1 S1 H1 x1 r1 q => ?_⟩⟩
  cases k with
  | true => rw [if_pos rfl] at q ⊢; exact ⟨β1, S1, ρ, r1, en.ext x1, q⟩
  | false => rw [if_neg Bool.false_ne_true] at q ⊢; exact ⟨β1, S1, ρ, r1, en.ext x1, q⟩
theorem asg_of {i : Nat} {D : Ends} {σ : L2.St} {H : Hp} (h : tMS X.K X.mg W (sAsg i m) D σ H) : tM X.K X.mg W m σ H fun x H1 => D.nx (σ.set i (some x)) H1 := by
  obtain ⟨β, S, ρ, rl, en, p⟩ := h
  exact ⟨β, S, ρ, rl, en, (p.st en).mono fun d β1 S1 H1 x1 r1 q v hv => q β1 H1 _ .refl r1 ((en.ext x1).set i hv)⟩
theorem ms_asg {i : Nat} {x : Str} {pos' : Pos} (hN : X.N.Nodup) (he : ME X W e m) (hi : X.N[i]? = some x := by rfl) (hx : Loc X.env.scope x := by first | exact .inl rfl | exact .inr rfl) (hs : swapsWith e (some (.Name x pos')) pos.line X.env = pure false := by rfl)
    (hf : X.fn x = true ∨ X.env.scope.names.lookup x = some .local := by first | exact .inl rfl | exact .inr rfl) : MS X W (.Assign [.Name x pos'] e pos) (sAsg i m) :=
  ⟨PS.weak (ps_set (i := i) hN hi hx he.pe hs hf) fun _ _ _ h => asg_of h⟩
/-! ### while -/
def whileF (c : Mb) (b : Ms) : Nat → Ms
  | 0, _, _ => .stuck
  | n + 1, ρ, S => (c ρ S).st ρ fun k S1 => if k = true then (match b ρ S1 with
      | .fl (.nx ρ') S2 => whileF c b n ρ' S2
      | r => r) else .fl (.nx ρ) S1
theorem whileF_more {c : Mb} {b : Ms} : ∀ {n : Nat} {ρ : Env'} {S : Sto}, whileF c b n ρ S ≠ .stuck → whileF c b (n + 1) ρ S = whileF c b n ρ S
  | 0, _, _, h => absurd rfl h
  | n + 1, ρ, S, h => by
    unfold whileF at h
    rw [whileF, whileF]
    cases q : c ρ S with
    | ok k S1 =>
      rw [q] at h
      cases k with
      | false => rfl
      | true =>
        cases q2 : b ρ S1 with
        | fl f S2 =>
          cases f with
          | nx ρ' =>
            simp only [R.st, if_true, q2] at h ⊢
            exact whileF_more h
          | rt d => simp only [R.st, if_true, q2]
        | ex x ρ' S2 => simp only [R.st, if_true, q2]
        | stuck => simp only [R.st, if_true, q2]
    | ex x S1 => rfl
    | stuck => rfl
theorem whileF_le {c : Mb} {b : Ms} {n m : Nat} {ρ : Env'} {S : Sto} (h : whileF c b n ρ S ≠ .stuck) (hm : n ≤ m) : whileF c b m ρ S = whileF c b n ρ S := by
  induction hm with
  | refl => rfl
  | step hk ih => rw [whileF_more (by rw [ih]; exact h), ih]
open Classical in
noncomputable def sWhile (c : Mb) (b : Ms) : Ms := fun ρ S => if h : ∃ n, whileF c b n ρ S ≠ .stuck then whileF c b h.choose ρ S else .stuck
theorem sWhile_eq {c : Mb} {b : Ms} {n : Nat} {ρ : Env'} {S : Sto} {r : RS} (h : whileF c b n ρ S = r) (hr : r ≠ .stuck) : sWhile c b ρ S = r := by
  have hn : whileF c b n ρ S ≠ .stuck := by rw [h]; exact hr
  have he : ∃ n, whileF c b n ρ S ≠ .stuck := ⟨n, hn⟩
  unfold sWhile
  rw [dif_pos he, ← h]
  rcases Nat.le_total n he.choose with q | q
  · exact whileF_le hn q
  · exact (whileF_le he.choose_spec q).symm
theorem sWhile_fuel {K : PySem.W.Frag} {mg : Str → Option Value} {β : List Addr} {H : Hp} {D : Ends} {c : Mb} {b : Ms} {ρ : Env'} {S : Sto} (h : PoS K mg W β H (sWhile c b ρ S) D) : ∃ n, PoS K mg W β H (whileF c b n ρ S) D := by
  unfold sWhile at h
  split at h
  · exact ⟨_, h⟩
  · exact h.elim
theorem ms_while {body : List Stmt} (hp : PassesOwn (model X.prog X.w) X.A X.env X.xe) (hc : MT X W c mc) (hb : MSs X W body b) : MS X W (.While c body [] pos) (sWhile mc b) := by
  refine ⟨PS.weak (ps_while hp hc.pt hb.ps) fun D σ H ⟨β, S, ρ, rl, en, p⟩ => ?_⟩
  obtain ⟨n, p⟩ := sWhile_fuel p
  refine ⟨fun m σ H => ∃ β S ρ, Rl X.K X.mg β H S ∧ En X.K X.mg β H ρ σ ∧ PoS X.K X.mg W β H (whileF mc b m ρ S) D, ⟨n, β, S, ρ, rl, en, p⟩, ?_⟩
  rintro m σ H ⟨β, S, ρ, rl, en, p⟩
  cases m with
  | zero => exact p.elim
  | succ k =>
    unfold whileF at p
    refine ⟨β, S, ρ, rl, en, (p.st en).mono fun t β1 S1 H1 x1 r1 q => ?_⟩
    cases t with
    | false => rw [if_neg Bool.false_ne_true] at q ⊢; exact q β1 H1 σ .refl r1 (en.ext x1)
    | true =>
      rw [if_pos rfl] at q ⊢
      refine ⟨fun σ H => ∃ β S ρ, Rl X.K X.mg β H S ∧ En X.K X.mg β H ρ σ ∧ PoS X.K X.mg W β H (whileF mc b k ρ S) D, fun σ' H' w => ⟨k, Nat.lt_succ_self k, w⟩, β1, S1, ρ, r1, en.ext x1, ?_⟩
      cases e : b ρ S1 with
      | fl f S2 =>
        rw [e] at q
        cases f with
        | nx ρ' => exact fun β' H' σ' x r en' => ⟨β', S2, ρ', r, en', PoS.xt q x⟩
        | rt d => exact q
      | ex x ρ' S2 => rw [e] at q; exact q
      | stuck => rw [e] at q; exact q
end

/-! ### what is walked -/
structure ItD where
  cnt : Nat
  nx : Nat → Sto → Option D
  fin : Sto → Bool
abbrev Mi := Env' → Sto → R ItD
section
variable (K : PySem.W.Frag) (mg : Str → Option Value)
def ItOk (β : List Addr) (H : Hp) (J : It) (it : ItD) : Prop := ∀ β' H' S', Xt K β H β' H' → Rl K mg β' H' S' →
  (∀ i d, i < it.cnt → it.nx i S' = some d → J.go i H' ∧ ∀ x H'', J.yld i H' x H'' → Xt K β' H' β' H'' ∧ Rl K mg β' H'' S' ∧ Vd K mg β' H'' x d) ∧ (it.fin S' = true → J.stop it.cnt H')
def tMI (W : WX) (m : Mi) : TI := fun σ H Q => ∃ β S ρ, Rl K mg β H S ∧ En K mg β H ρ σ ∧ Po K mg W σ β H (m ρ S) fun it β' _ H' => ∀ J, ItOk K mg β' H' J it → Q J H'
end
structure MI (X : Cx) (W : WX) (tg iter : Expr) (m : Mi) : Prop where
  pi : PI X tg iter (tMI X.K X.mg W m)
theorem PI.weak {X : Cx} {tg e : Expr} {t t' : TI} (h : PI X tg e t) (i : ∀ σ H Q, t' σ H Q → t σ H Q) : PI X tg e t' := ⟨fun pins s σ H Q I q => h.run pins s σ H Q I (i σ H Q q)⟩
def itL (n c : Nat) : ItD := ⟨c, fun i S => (lstAt S n).bind (·[i]?), fun S => match lstAt S n with
  | some xs => decide (xs.length ≤ c)
  | none => false⟩
def itT (ds : List D) : ItD := ⟨ds.length, fun i _ => ds[i]?, fun _ => true⟩
def itS (z : Str) : ItD := ⟨z.cps.size, fun i _ => (z.cps[i]?).map fun c => .str ⟨#[c]⟩, fun _ => true⟩
def itR (lo : Int) (n : Nat) : ItD := ⟨n, fun i _ => some (.int (lo + i)), fun _ => true⟩
def mIt (m : Mx) : Mi := fun ρ S => (m ρ S).bind fun d S1 => match d with
  | .ref n => match lstAt S1 n with
    | some xs => .ok (itL n xs.length) S1
    | none => .stuck
  | .tup ds => .ok (itT ds) S1
  | .str z => .ok (itS z) S1
  | _ => .stuck
section
variable {X : Cx} {W : WX} {tg e : Expr} {m : Mx} {pos : Pos}
theorem itL_ok {K : PySem.W.Frag} {mg : Str → Option Value} {β : List Addr} {H : Hp} {n c : Nat} {a : Addr} (h : β[n]? = some a) : ItOk K mg β H (Itl K a) (itL n c) := by
  intro β' H' S' x r
  have h' := x.at' h
  refine ⟨fun i d hi hd => ?_, fun hf => ?_⟩
  · unfold itL at hd
    dsimp only at hd
    cases q : lstAt S' n with
    | none => rw [q] at hd; cases hd
    | some ds =>
      rw [q] at hd
      obtain ⟨xs, h1, h2⟩ := lst_read r h' q
      obtain ⟨v, h3, h4⟩ := h2.get (show ds[i]? = some d from hd)
      refine ⟨⟨xs, v, h1, h3⟩, fun y H'' hy => ?_⟩
      obtain ⟨rfl, hy⟩ := hy
      have e := hy xs h1
      rw [h3] at e
      cases e
      exact ⟨.refl, r, h4⟩
  · unfold itL at hf
    dsimp only at hf
    cases q : lstAt S' n with
    | none => rw [q] at hf; cases hf
    | some ds =>
      rw [q] at hf
      obtain ⟨xs, h1, h2⟩ := lst_read r h' q
      exact ⟨xs, h1, by rw [h2.length]; exact of_decide_eq_true hf⟩
theorem itT_ok {K : PySem.W.Frag} {mg : Str → Option Value} {β : List Addr} {H : Hp} {ds : List D} {a : Addr} {xs : List V} (h : H a = some (.tup xs)) (hv : Vds K mg β H xs ds) : ItOk K mg β H (Itt K a) (itT ds) := by
  intro β' H' S' x r
  have h' : SqT K H' a xs := .of (x.tup _ _ h)
  have hv' := hv.ext x
  refine ⟨fun i d hi hd => ?_, fun _ => ⟨xs, h', by rw [hv.length]; exact Nat.le_refl _⟩⟩
  obtain ⟨v, h3, h4⟩ := hv'.get (show ds[i]? = some d from hd)
  refine ⟨⟨xs, v, h', h3⟩, fun y H'' hy => ?_⟩
  obtain ⟨rfl, hy⟩ := hy
  have e := hy xs h'
  rw [h3] at e
  cases e
  exact ⟨.refl, r, h4⟩
theorem itS_ok {K : PySem.W.Frag} {mg : Str → Option Value} {β : List Addr} {H : Hp} {z : Str} : ItOk K mg β H (Its z) (itS z) := by
  intro β' H' S' x r
  refine ⟨fun i d hi hd => ⟨hi, fun y H'' hy => ?_⟩, fun _ => Nat.le_refl _⟩
  obtain ⟨rfl, c, hc, rfl⟩ := hy
  unfold itS at hd
  dsimp only at hd
  rw [hc] at hd
  cases hd
  exact ⟨.refl, r, .str _⟩
theorem itR_ok {K : PySem.W.Frag} {mg : Str → Option Value} {β : List Addr} {H : Hp} {lo : Int} {n : Nat} : ItOk K mg β H (Itr lo n) (itR lo n) := by
  intro β' H' S' x r
  refine ⟨fun i d hi hd => ⟨hi, fun y H'' hy => ?_⟩, fun _ => Nat.le_refl _⟩
  obtain ⟨rfl, rfl⟩ := hy
  cases hd
  exact ⟨.refl, r, .int _⟩
/-- over a list, a tuple, a text: known by what the part comes to -/
theorem mi_seq (h : ME X W e m) : MI X W tg e (mIt m) := by
  refine ⟨⟨fun pins s σ H Q I ⟨β, S, ρ, rl, en, p⟩ => ?_⟩⟩
  have p' := (show Po X.K X.mg W σ β H ((m ρ S).bind _) _ from p).bind
  cases q : m ρ S with
  | stuck => rw [q] at p'; exact p'.elim
  | ex x S1 =>
    refine (pi_list h.pe).run pins s σ H Q I ⟨β, S, ρ, rl, en, ?_⟩
    rw [q] at p' ⊢
    exact p'
  | ok d S1 =>
    rw [q] at p'
    cases d with
    | ref n =>
      refine (pi_list h.pe).run pins s σ H Q I ⟨β, S, ρ, rl, en, ?_⟩
      rw [q]
      intro β1 H1 x1 r1 v hv
      have g := p' β1 H1 x1 r1
      dsimp only at g
      obtain ⟨a, rfl, h1⟩ := hv.ref_inv
      cases q2 : lstAt S1 n with
      | none => rw [q2] at g; exact g.elim
      | some xs =>
        rw [q2] at g
        obtain ⟨vs, h2, h3⟩ := lst_read r1 h1 q2
        exact ⟨a, rfl, ⟨vs, h2⟩, g β1 H1 .refl r1 _ (itL_ok h1)⟩
    | tup ds =>
      refine (pi_tup h.pe).run pins s σ H Q I ⟨β, S, ρ, rl, en, ?_⟩
      rw [q]
      intro β1 H1 x1 r1 v hv
      have g := p' β1 H1 x1 r1
      dsimp only at g
      obtain ⟨a, vs, rfl, h1, h2⟩ := hv.tup_at
      exact ⟨a, rfl, ⟨vs, .of h1⟩, g β1 H1 .refl r1 _ (itT_ok h1 h2)⟩
    | str z =>
      refine (pi_str h.pe).run pins s σ H Q I ⟨β, S, ρ, rl, en, ?_⟩
      rw [q]
      intro β1 H1 x1 r1 v hv
      have g := p' β1 H1 x1 r1
      dsimp only at g
      cases hv
      exact ⟨z, rfl, g β1 H1 .refl r1 _ itS_ok⟩
    | _ =>
      refine (pi_list h.pe).run pins s σ H Q I ⟨β, S, ρ, rl, en, ?_⟩
      rw [q]
      intro β1 H1 x1 r1 v hv
      exact (p' β1 H1 x1 r1).elim
/-- range(n), range(a, b) -/
noncomputable def small62 (i : Int) : Bool := cdec (-4611686018427387904 ≤ i ∧ i < 4611686018427387904)
theorem small62_of {i : Int} (h : small62 i = true) : -(2 ^ 62) ≤ i ∧ i < 2 ^ 62 := by
  have := cdec_of h
  omega
theorem Vds.one {K : PySem.W.Frag} {mg : Str → Option Value} {β : List Addr} {H : Hp} {vs : List V} {d : D} (h : Vds K mg β H vs [d]) : ∃ v, vs = [v] ∧ Vd K mg β H v d := by
  cases h with
  | cons h t => cases t; exact ⟨_, rfl, h⟩
theorem Vds.two {K : PySem.W.Frag} {mg : Str → Option Value} {β : List Addr} {H : Hp} {vs : List V} {d d' : D} (h : Vds K mg β H vs [d, d']) : ∃ v v', vs = [v, v'] ∧ Vd K mg β H v d ∧ Vd K mg β H v' d' := by
  cases h with
  | cons h t =>
    obtain ⟨v', rfl, h'⟩ := t.one
    exact ⟨_, _, rfl, h, h'⟩
theorem Vds.three {K : PySem.W.Frag} {mg : Str → Option Value} {β : List Addr} {H : Hp} {vs : List V} {d d' d'' : D} (h : Vds K mg β H vs [d, d', d'']) : ∃ v v' v'', vs = [v, v', v''] ∧ Vd K mg β H v d ∧ Vd K mg β H v' d' ∧ Vd K mg β H v'' d'' := by
  cases h with
  | cons h t =>
    obtain ⟨v', v'', rfl, h', h''⟩ := t.two
    exact ⟨_, _, _, rfl, h, h', h''⟩
/-- one argument, two arguments: from the parts to the list -/
theorem Po.args1 {K : PySem.W.Frag} {mg : Str → Option Value} {σ : L2.St} {β : List Addr} {H : Hp} {ρ : Env'} {S : Sto} {G : D → List Addr → Sto → Hp → Prop} (p : Po K mg W σ β H (m ρ S) G) : Po K mg W σ β H (mCons m mNil ρ S) fun ds β' S' H' => ∃ d, ds = [d] ∧ G d β' S' H' := by
  unfold mCons mNil
  cases q : m ρ S with
  | stuck => rw [q] at p; exact p
  | ex x S1 => rw [q] at p; exact p
  | ok d S1 => rw [q] at p; exact fun β' H' x r => ⟨d, rfl, p β' H' x r⟩
theorem Po.args2 {K : PySem.W.Frag} {mg : Str → Option Value} {σ : L2.St} {β : List Addr} {H : Hp} {ρ : Env'} {S : Sto} {m2 : Mx} {G : D → D → List Addr → Sto → Hp → Prop} (p : Po K mg W σ β H ((m ρ S).bind fun x S1 => (m2 ρ S1).bind fun y S2 => .ok (x, y) S2) fun xy β' S' H' => G xy.1 xy.2 β' S' H') :
    Po K mg W σ β H (mCons m (mCons m2 mNil) ρ S) fun ds β' S' H' => ∃ x y, ds = [x, y] ∧ G x y β' S' H' := by
  unfold mCons mNil
  cases q : m ρ S with
  | stuck => rw [q] at p; exact p
  | ex x S1 => rw [q] at p; exact p
  | ok d S1 =>
    rw [q] at p
    have p2 : Po K mg W σ β H ((m2 ρ S1).bind fun y S2 => .ok (d, y) S2) fun xy β' S' H' => G xy.1 xy.2 β' S' H' := p
    show Po K mg W σ β H (((m2 ρ S1).bind fun d2 S2 => (R.ok ([] : List D) S2).bind fun ds S3 => .ok (d2 :: ds) S3).bind fun ds S2 => .ok (d :: ds) S2) _
    cases q2 : m2 ρ S1 with
    | stuck => rw [q2] at p2; exact p2
    | ex x S2 => rw [q2] at p2; exact p2
    | ok e S2 => rw [q2] at p2; exact fun β' H' x r => ⟨d, e, rfl, p2 β' H' x r⟩
def m2 {α : Type} (ma mb : Mx) (f : D → D → Sto → R α) : Env' → Sto → R α := fun ρ S => (ma ρ S).bind fun x S1 => (mb ρ S1).bind fun y S2 => f x y S2
theorem Po.m2 {α : Type} {K : PySem.W.Frag} {mg : Str → Option Value} {σ : L2.St} {β : List Addr} {H : Hp} {ρ : Env'} {S : Sto} {mb : Mx} {f : D → D → Sto → R α} {G : α → List Addr → Sto → Hp → Prop} (p : Po K mg W σ β H (m2 m mb f ρ S) G) :
    Po K mg W σ β H ((m ρ S).bind fun x S1 => (mb ρ S1).bind fun y S2 => .ok (x, y) S2) fun xy β' S' H' => Po K mg W σ β' H' (f xy.1 xy.2 S') G := by
  unfold Eng.m2 at p
  cases q : m ρ S with
  | stuck => rw [q] at p; exact p
  | ex x S1 => rw [q] at p; exact p
  | ok d S1 =>
    rw [q] at p
    have p2 : Po K mg W σ β H ((mb ρ S1).bind fun y S2 => f d y S2) G := p
    show Po K mg W σ β H ((mb ρ S1).bind fun y S2 => .ok (d, y) S2) _
    cases q2 : mb ρ S1 with
    | stuck => rw [q2] at p2; exact p2
    | ex x S2 => rw [q2] at p2; exact p2
    | ok e S2 => rw [q2] at p2; exact fun β' H' x r => Po.xt p2 x
noncomputable def rg1 (d : D) (S : Sto) : R ItD := match d with
  | .int n => if small62 n = true then .ok (itR 0 n.toNat) S else .stuck
  | _ => .stuck
noncomputable def mRange1 (m : Mx) : Mi := fun ρ S => (m ρ S).bind rg1
theorem mi_range1 {a : Expr} {p : Pos} (hm : X.mg "range" = none) (ha : ME X W a m) (hg : Gl X "range" := by rfl) (hs : starEach [a] X.env = [(false, eval a X.env)] := by rfl) : MI X W tg (.Call (.Name "range" p) [a] [] pos) (mRange1 m) := by
  refine ⟨PI.weak (pi_range1 hg hm (ma_cons ha ma_nil hs).pa hs) fun σ H Q ⟨β, S, ρ, rl, en, p⟩ => ?_⟩
  refine ⟨β, S, ρ, rl, en, (Po.bind p).args1.mono fun ds β1 S1 H1 x1 r1 ⟨d, e, q⟩ vs hv => ?_⟩
  subst e
  obtain ⟨v, rfl, h⟩ := hv.one
  cases d with
  | int n =>
    cases h
    unfold rg1 at q
    dsimp only at q
    split at q
    · rename_i h
      obtain ⟨h1, h2⟩ := small62_of h
      exact ⟨n, rfl, h1, h2, q β1 H1 .refl r1 _ itR_ok⟩
    · exact q.elim
  | _ => exact q.elim
noncomputable def rg2 (d e : D) (S : Sto) : R ItD := match d, e with
  | .int a, .int b => if (small62 a && small62 b) = true then .ok (itR a (b - a).toNat) S else .stuck
  | _, _ => .stuck
noncomputable def mRange2 (ma mb : Mx) : Mi := m2 ma mb rg2
theorem mi_range2 {a b : Expr} {mb : Mx} {p : Pos} (hm : X.mg "range" = none) (ha : ME X W a m) (hb : ME X W b mb) (hg : Gl X "range" := by rfl) (hs : starEach [a, b] X.env = [(false, eval a X.env), (false, eval b X.env)] := by rfl) (hs2 : starEach [b] X.env = [(false, eval b X.env)] := by rfl) :
    MI X W tg (.Call (.Name "range" p) [a, b] [] pos) (mRange2 m mb) := by
  refine ⟨PI.weak (pi_range2 hg hm (ma_cons ha (ma_cons hb ma_nil hs2) (by rw [hs, hs2])).pa hs hs2) fun σ H Q ⟨β, S, ρ, rl, en, p⟩ => ?_⟩
  refine ⟨β, S, ρ, rl, en, (Po.args2 (G := fun x y β' S' H' => Po X.K X.mg W σ β' H' (rg2 x y S') fun it β' _ H' => ∀ J, ItOk X.K X.mg β' H' J it → Q J H') (Po.m2 p)).mono fun ds β1 S1 H1 x1 r1 ⟨d, e, e1, q⟩ vs hv => ?_⟩
  subst e1
  obtain ⟨v, w, rfl, h, h'⟩ := hv.two
  cases d <;> cases e <;> first | (exact q.elim) | skip
  rename_i i j _
  cases h
  cases h'
  unfold rg2 at q
  dsimp only at q
  split at q
  · rename_i h
    rw [Bool.and_eq_true] at h
    obtain ⟨h1, h2⟩ := small62_of h.1
    obtain ⟨h3, h4⟩ := small62_of h.2
    exact ⟨i, j, rfl, ⟨h1, h2, h3, h4⟩, q β1 H1 .refl r1 _ itR_ok⟩
  · exact q.elim
end
end Eng

/-! The engine, part 4: targets, for, comprehensions, calls, defs. -/
namespace Eng
open PySem PySem.Spec PyProof.Rows L2
variable [TabCfg]

/-! ### targets -/
abbrev Ft := D → Env' → Option Env'
def tMG (K : PySem.W.Frag) (mg : Str → Option Value) (f : Ft) : TG := fun v σ H Q => ∃ β S ρ d ρ', Rl K mg β H S ∧ En K mg β H ρ σ ∧ Vd K mg β H v d ∧ f d ρ = some ρ' ∧ ∀ σ', En K mg β H ρ' σ' → Q σ' H
structure MG (X : Cx) (tg : Expr) (f : Ft) : Prop where
  pg : PG X tg (tMG X.K X.mg f)
theorem PG.weak {X : Cx} {e : Expr} {t t' : TG} (h : PG X e t) (i : ∀ v σ H Q, t' v σ H Q → t v σ H Q) : PG X e t' := ⟨fun pins s σ H v u Q I r q => h.run pins s σ H v u Q I r (i v σ H Q q)⟩
def fName (i : Nat) : Ft := fun d ρ => some (ρ.set i (some d))
/-- a tuple of names -/
def setAll : List Nat → List D → Env' → Env'
  | i :: is, d :: ds, ρ => setAll is ds (ρ.set i (some d))
  | _, _, ρ => ρ
def fNames (is : List Nat) : Ft := fun d ρ => match d with
  | .tup ds => if ds.length = is.length then some (setAll is ds ρ) else none
  | _ => none
section
variable {X : Cx} {W : WX} {pos : Pos}
theorem mg_name {i : Nat} {x : Str} (hN : X.N.Nodup) (hi : X.N[i]? = some x := by rfl) (hx : Loc X.env.scope x := by first | exact .inl rfl | exact .inr rfl) (hf : X.fn x = true ∨ X.env.scope.names.lookup x = some .local := by first | exact .inl rfl | exact .inr rfl) : MG X (.Name x pos) (fName i) :=
  ⟨PG.weak (pg_name hN hi hx hf) fun v σ H Q ⟨β, S, ρ, d, ρ', rl, en, hv, e, q⟩ => by
    cases e
    exact q _ (en.set i hv)⟩
structure MGs (X : Cx) (ts : List Expr) (is : List Nat) : Prop where
  pgs : PGs X ts (fun vs σ H Q => ∃ β S ρ ds, Rl X.K X.mg β H S ∧ En X.K X.mg β H ρ σ ∧ Vds X.K X.mg β H vs ds ∧ ds.length = is.length ∧ ∀ σ', En X.K X.mg β H (setAll is ds ρ) σ' → Q σ' H)
theorem PGs.weak {X : Cx} {e : List Expr} {t t' : TGs} (h : PGs X e t) (i : ∀ v σ H Q, t' v σ H Q → t v σ H Q) : PGs X e t' := ⟨fun pins s σ H v u Q I r q => h.run pins s σ H v u Q I r (i v σ H Q q)⟩
theorem mgs_nil : MGs X [] [] := ⟨PGs.weak pgs_nil fun vs σ H Q ⟨β, S, ρ, ds, rl, en, hv, hl, q⟩ => by
  cases ds with
  | nil => cases hv; exact ⟨rfl, q σ en⟩
  | cons d ds => cases hl⟩
theorem mgs_cons {i : Nat} {is : List Nat} {x : Str} {es : List Expr} (h2 : MGs X es is) (hN : X.N.Nodup) (hi : X.N[i]? = some x := by rfl) (hx : Loc X.env.scope x := by first | exact .inl rfl | exact .inr rfl) (hf : X.fn x = true ∨ X.env.scope.names.lookup x = some .local := by first | exact .inl rfl | exact .inr rfl)
    (hs : (assignEach (.Name x pos :: es) X.env).map (·.2) = assign (.Name x pos) X.env :: (assignEach es X.env).map (·.2) := by rfl) : MGs X (.Name x pos :: es) (i :: is) := by
  refine ⟨PGs.weak (pgs_cons (pg_name hN hi hx hf) h2.pgs hs) fun vs σ H Q ⟨β, S, ρ, ds, rl, en, hv, hl, q⟩ => ?_⟩
  cases hv with
  | nil => cases hl
  | cons h t => exact ⟨_, _, rfl, β, S, _, _, rl, en.set i h, t, Nat.succ.inj hl, fun σ' en' => q σ' en'⟩
theorem mg_tup {es : List Expr} {k : Nat} {is : List Nat} (h : MGs X es is) (hc : X.calm = true := by rfl)
    (hn : (assignEach es X.env).length = is.length := by rfl) (hst : (assignEach es X.env).findIdx? (·.1) = none := by rfl) : MG X (.Tuple es k pos) (fNames is) :=
  ⟨PG.weak (pg_tup hc h.pgs hn hst) fun v σ H Q ⟨β, S, ρ, d, ρ', rl, en, hv, e, q⟩ => by
    cases d with
    | tup ds =>
      unfold fNames at e
      dsimp only at e
      split at e
      · rename_i hl
        cases e
        obtain ⟨a, xs, rfl, h1, h2⟩ := hv.tup_inv
        exact ⟨a, xs, rfl, h1, by rw [h2.length]; exact hl, β, S, ρ, ds, rl, en, h2, hl, q⟩
      · cases e
    | _ => cases e⟩
def sAsgT (m : Mx) (f : Ft) : Ms := fun ρ S => (m ρ S).st ρ fun d S1 => match f d ρ with
  | some ρ' => .fl (.nx ρ') S1
  | none => .stuck
/-- (a, b, ..) = e -/
theorem ms_asgT {tg e : Expr} {m : Mx} {f : Ft} (he : ME X W e m) (hg : MG X tg f) (hs : swapsWithSole [tg] e pos.line X.env = pure false := by rfl) (hw : swappedStores [tg] e X.env = pure none := by rfl)
    (h1 : (assignEach [tg] X.env).map (·.2) = [assign tg X.env] := by rfl) : MS X W (.Assign [tg] e pos) (sAsgT m f) := by
  refine ⟨PS.weak (ps_asg he.pe hg.pg hs hw h1) fun D σ H ⟨β, S, ρ, rl, en, p⟩ => ⟨β, S, ρ, rl, en, (PoS.st p en).mono fun d β1 S1 H1 x1 r1 q v hv => ?_⟩⟩
  cases e : f d ρ with
  | none => rw [e] at q; exact q.elim
  | some ρ' =>
    rw [e] at q
    exact ⟨β1, S1, ρ, d, ρ', r1, en.ext x1, hv, e, fun σ' en' => q β1 H1 σ' .refl r1 en'⟩
/-! ### for -/
def forF (it : ItD) (f : Ft) (b : Ms) : Nat → Nat → Ms
  | 0, _, ρ, S => if it.fin S = true then .fl (.nx ρ) S else .stuck
  | n + 1, i, ρ, S => match it.nx i S with
    | none => .stuck
    | some d => match f d ρ with
      | none => .stuck
      | some ρ1 => match b ρ1 S with
        | .fl (.nx ρ2) S2 => forF it f b n (i + 1) ρ2 S2
        | r => r
def sFor (mi : Mi) (f : Ft) (b : Ms) : Ms := fun ρ S => (mi ρ S).st ρ fun it S1 => forF it f b it.cnt 0 ρ S1
theorem ms_for {tg iter : Expr} {body : List Stmt} {mi : Mi} {f : Ft} {b : Ms} (hp : PassesOwn (model X.prog X.w) X.A X.env X.xe) (hi : MI X W tg iter mi) (hg : MG X tg f) (hb : MSs X W body b) (hc : X.calm = true := by rfl)
    (hs : ∀ x, foldedSetIterable iter X.env x = pure x := by intro _; rfl) : MS X W (.For tg iter body [] pos) (sFor mi f b) := by
  refine ⟨PS.weak (ps_for hp hc hi.pi hg.pg hb.ps hs) fun D σ H ⟨β, S, ρ, rl, en, p⟩ => ⟨β, S, ρ, rl, en, (PoS.st p en).mono fun it β1 S1 H1 x1 r1 q J hJ => ?_⟩⟩
  refine ⟨fun i m σ H => ∃ β S ρ, Xt X.K β1 H1 β H ∧ Rl X.K X.mg β H S ∧ En X.K X.mg β H ρ σ ∧ i + m = it.cnt ∧ PoS X.K X.mg W β H (forF it f b m i ρ S) D, ⟨it.cnt, β1, S1, ρ, .refl, r1, en.ext x1, Nat.zero_add _, q⟩, ?_⟩
  rintro i m σ H ⟨β, S, ρ, x, rl, en, hm, p⟩
  obtain ⟨h1, h2⟩ := hJ β H S x rl
  cases m with
  | zero =>
    unfold forF at p
    split at p
    · rename_i hf
      have e : i = it.cnt := by omega
      subst e
      exact .inl ⟨h2 hf, p β H σ .refl rl en⟩
    · exact p.elim
  | succ k =>
    unfold forF at p
    cases e1 : it.nx i S with
    | none => rw [e1] at p; exact p.elim
    | some d =>
      rw [e1] at p
      dsimp only at p
      cases e2 : f d ρ with
      | none => rw [e2] at p; exact p.elim
      | some ρ1 =>
        rw [e2] at p
        dsimp only at p
        obtain ⟨go, yld⟩ := h1 i d (by omega) e1
        refine .inr ⟨go, fun σ H => ∃ β S ρ, Xt X.K β1 H1 β H ∧ Rl X.K X.mg β H S ∧ En X.K X.mg β H ρ σ ∧ (i + 1) + k = it.cnt ∧ PoS X.K X.mg W β H (forF it f b k (i + 1) ρ S) D, fun σ' H' w => ⟨k, Nat.lt_succ_self k, w⟩, fun v H' hy => ?_⟩
        obtain ⟨x2, r2, hv⟩ := yld v H' hy
        refine ⟨β, S, ρ, d, ρ1, r2, en.ext x2, hv, e2, fun σ2 en2 => ⟨β, S, ρ1, r2, en2, ?_⟩⟩
        have p' := PoS.xt p x2
        cases e3 : b ρ1 S with
        | fl g S2 =>
          rw [e3] at p'
          cases g with
          | nx ρ2 => exact fun β' H' σ' y r en' => ⟨β', S2, ρ2, (x.trans x2).trans y, r, en', by omega, PoS.xt p' y⟩
          | rt d => exact p'
        | ex z ρ2 S2 => rw [e3] at p'; exact p'
        | stuck => rw [e3] at p'; exact p'
/-! ### x op= e -/
def sAug (i : Nat) (f : F2) (m : Mx) : Ms := fun ρ S => match ρ[i]? with
  | some (some x) => (m ρ S).st ρ fun y S1 => match f x y S1 with
    | some (d, S2) => .fl (.nx (ρ.set i (some d))) S2
    | none => .stuck
  | _ => .stuck
theorem ms_aug {r : TIp} {f : F2} {op : Operator} {i : Nat} {x : Str} {e : Expr} {m : Mx} {pos' : Pos} (ho : PIp X op r) (hf : Op2 X r f) (he : ME X W e m) (hN : X.N.Nodup) (hi : X.N[i]? = some x := by rfl) (hx : Loc X.env.scope x := by first | exact .inl rfl | exact .inr rfl)
    (hfn : X.fn x = true ∨ X.env.scope.names.lookup x = some .local := by first | exact .inl rfl | exact .inr rfl) : MS X W (.AugAssign (.Name x pos') op e pos) (sAug i f m) := by
  refine ⟨PS.weak (ps_aug (i := i) hN hi hx he.pe ho hfn) fun D σ H ⟨β, S, ρ, rl, en, p⟩ => ?_⟩
  unfold sAug at p
  cases q : ρ[i]? with
  | none => rw [q] at p; exact p.elim
  | some o =>
    cases o with
    | none => rw [q] at p; exact p.elim
    | some d =>
      rw [q] at p
      obtain ⟨v, h1, h2⟩ := en.at' i d q
      refine ⟨v, h1, β, S, ρ, rl, en, (PoS.st p en).mono fun y β1 S1 H1 x1 r1 q u hu => ?_⟩
      cases e : f d y S1 with
      | none => rw [e] at q; exact q.elim
      | some z =>
        rw [e] at q
        exact hf β1 H1 S1 d y v u z.1 z.2 _ r1 (h2.ext x1) hu e fun β' H' w x r hw => q β' H' _ x r (((en.ext x1).ext x).set i hw)
theorem ms_augAdd {i : Nat} {x : Str} {e : Expr} {m : Mx} {pos' : Pos} (he : ME X W e m) (hN : X.N.Nodup) (hi : X.N[i]? = some x := by rfl) (hx : Loc X.env.scope x := by first | exact .inl rfl | exact .inr rfl)
    (hfn : X.fn x = true ∨ X.env.scope.names.lookup x = some .local := by first | exact .inl rfl | exact .inr rfl) : MS X W (.AugAssign (.Name x pos') .Add e pos) (sAug i (fI cT fun a b => .int (a + b)) m) :=
  ms_aug (r := ipI fun a b => a + b) ip_add (op2_I0 (g := fun a b => .int (a + b)) fun _ _ _ _ => .int _) he hN hi hx hfn
theorem ms_augSub {i : Nat} {x : Str} {e : Expr} {m : Mx} {pos' : Pos} (he : ME X W e m) (hN : X.N.Nodup) (hi : X.N[i]? = some x := by rfl) (hx : Loc X.env.scope x := by first | exact .inl rfl | exact .inr rfl)
    (hfn : X.fn x = true ∨ X.env.scope.names.lookup x = some .local := by first | exact .inl rfl | exact .inr rfl) : MS X W (.AugAssign (.Name x pos') .Sub e pos) (sAug i fSub m) :=
  ms_aug (r := ipI fun a b => a - b) ip_sub (op2_I0 (g := fun a b => .int (a - b)) fun _ _ _ _ => .int _) he hN hi hx hfn

/-! ### built-ins that are called by their values -/
abbrev FA := List D → Sto → Option (D × Sto)
def OpA (X : Cx) (r : List V → Hp → VK → Prop) (f : FA) : Prop := ∀ β H S xs vs d S' Q, Rl X.K X.mg β H S → Vds X.K X.mg β H vs xs → f xs S = some (d, S') →
  (∀ β' H' w, Xt X.K β H β' H' → Rl X.K X.mg β' H' S' → Vd X.K X.mg β' H' w d → Q w H') → r vs H Q
def mCB (f : FA) (m : Ma) : Mx := fun ρ S => (m ρ S).bind fun ds S1 => R.ofO (f ds S1)
theorem me_cb {x : Str} {id : String} {r : List V → Hp → VK → Prop} {f : FA} {e : Expr} {es : List Expr} {m : Ma} {p : Pos} (hc : CallR X (.builtin id) r) (hf : OpA X r f) (ha : MA X W (e :: es) m) (hm : X.mg x = none) (hv : bootBuiltins x = some (.builtin id)) (hg : Gl X x := by rfl) (hn : x ≠ "__name__" := by decide) (hdb : (x == ("__debug__" : Str)) = false := by decide)
    (he : starEach (e :: es) X.env = (false, eval e X.env) :: starEach es X.env := by rfl) (hpl : (backTo pos (starEach es X.env)).any (·.1) = false := by rfl) : ME X W (.Call (.Name x p) (e :: es) [] pos) (mCB f m) := by
  refine ⟨PE.weak (pe_callB hc hg hm hv ha.pa hn hdb he hpl) fun σ H Q ⟨β, S, ρ, rl, en, p⟩ => ⟨β, S, ρ, rl, en, p.bind.mono fun ds β1 S1 H1 x1 r1 q vs hvs => ?_⟩⟩
  obtain ⟨z, S3, e3, k⟩ := q.ofO
  exact hf β1 H1 S1 ds vs z S3 Q r1 hvs e3 fun β' H' w x r hw => k β' H' x r w hw
theorem me_cty {x : Str} {T : String} {r : List V → Hp → VK → Prop} {f : FA} {e : Expr} {es : List Expr} {m : Ma} {p : Pos} (hc : CallR X (.type T) r) (hf : OpA X r f) (ha : MA X W (e :: es) m) (hm : X.mg x = none) (hv : bootBuiltins x = some (.type T)) (hg : Gl X x := by rfl) (hn : x ≠ "__name__" := by decide) (hdb : (x == ("__debug__" : Str)) = false := by decide)
    (he : starEach (e :: es) X.env = (false, eval e X.env) :: starEach es X.env := by rfl) (hpl : (backTo pos (starEach es X.env)).any (·.1) = false := by rfl) : ME X W (.Call (.Name x p) (e :: es) [] pos) (mCB f m) := by
  refine ⟨PE.weak (pe_callTy hc hg hm hv ha.pa hn hdb he hpl) fun σ H Q ⟨β, S, ρ, rl, en, p⟩ => ⟨β, S, ρ, rl, en, p.bind.mono fun ds β1 S1 H1 x1 r1 q vs hvs => ?_⟩⟩
  obtain ⟨z, S3, e3, k⟩ := q.ofO
  exact hf β1 H1 S1 ds vs z S3 Q r1 hvs e3 fun β' H' w x r hw => k β' H' x r w hw
/-! #### len -/
def fLen : FA
  | [.str y], S => if y.length ≤ sizeLine then some (.int y.length, S) else none
  | [.tup ds], S => some (.int ds.length, S)
  | [.ref n], S => match lstAt S n with
    | some ds => some (.int ds.length, S)
    | none => match S[n]? with
      | some (.dk kvs) => some (.int kvs.length, S)
      | some (.dt kvs) => some (.int kvs.length, S)
      | _ => none
  | _, _ => none
def rLenA (K : PySem.W.Frag) : List V → Hp → VK → Prop := fun xs H Q => ((∃ x n, xs = [x] ∧ LenV K x H n ∧ Q (.int n) H) ∨ ∃ a kvs, xs = [.ref a] ∧ H a = some (.dK kvs) ∧ Q (.int kvs.length) H) ∨ rLenT xs H Q
theorem CallR.or {f : Value} {r r' : List V → Hp → VK → Prop} (h : CallR X f r) (h' : CallR X f r') : CallR X f fun xs H Q => r xs H Q ∨ r' xs H Q := by
  intro pins s σ H xs us Q I rv q
  rcases q with q | q
  · exact h pins s σ H xs us Q I rv q
  · exact h' pins s σ H xs us Q I rv q
theorem Pd.length {K : PySem.W.Frag} {mg : Str → Option Value} {β : List Addr} {H : Hp} {κ : Type} {xs : List (κ × V)} {ds : List (κ × D)} (h : Pd K mg β H xs ds) : xs.length = ds.length := Paired.length h
theorem o_len : OpA X (rLenA X.K) fLen := by
  intro β H S xs vs d S' Q r hv e k
  match xs, e, hv with
  | [.str y], e, hv =>
    obtain ⟨v, rfl, h⟩ := hv.one
    cases h
    unfold fLen at e
    dsimp only at e
    split at e
    · rename_i hl
      cases e
      exact .inl (.inl ⟨_, _, rfl, ⟨hl, rfl⟩, k β H _ .refl r (.int _)⟩)
    · cases e
  | [.tup ds], e, hv =>
    obtain ⟨v, rfl, h⟩ := hv.one
    obtain ⟨a, us, rfl, h1, h2⟩ := h.tup_inv
    cases e
    exact .inl (.inl ⟨_, _, rfl, .inr ⟨us, h1, rfl⟩, by rw [h2.length]; exact k β H _ .refl r (.int _)⟩)
  | [.ref n], e, hv =>
    obtain ⟨v, rfl, h⟩ := hv.one
    obtain ⟨a, rfl, h1⟩ := h.ref_inv
    unfold fLen at e
    dsimp only at e
    cases q : lstAt S n with
    | some ds =>
      rw [q] at e
      cases e
      obtain ⟨us, h2, h3⟩ := lst_read r h1 q
      exact .inl (.inl ⟨_, _, rfl, .inl ⟨us, h2, rfl⟩, by rw [h3.length]; exact k β H _ .refl r (.int _)⟩)
    | none =>
      rw [q] at e
      dsimp only at e
      cases q2 : S[n]? with
      | none => rw [q2] at e; cases e
      | some o =>
        rw [q2] at e
        cases o with
        | dk kvs =>
          cases e
          obtain ⟨us, h2, h3⟩ := r.at' n a _ h1 q2
          exact .inl (.inr ⟨a, us, rfl, h2, by rw [h3.length]; exact k β H _ .refl r (.int _)⟩)
        | dt kvs =>
          cases e
          obtain ⟨us, h2, h3⟩ := r.at' n a _ h1 q2
          exact .inr ⟨a, us, rfl, h2, by rw [h3.length]; exact k β H _ .refl r (.int _)⟩
        | _ => cases e
theorem me_len {e : Expr} {m : Mx} {p : Pos} (hm : X.mg "len" = none) (ha : ME X W e m) (hg : Gl X "len" := by rfl) (hs : starEach [e] X.env = [(false, eval e X.env)] := by rfl) : ME X W (.Call (.Name "len" p) [e] [] pos) (mCB fLen (mCons m mNil)) :=
  me_cb (CallR.or (CallR.or call_len (by exact call_lenD)) call_len_dT) o_len (ma_cons ha ma_nil hs) hm PySem.boot_len hg (by decide) (by decide) hs rfl
/-! #### isinstance(x, C): built-in types -/
def tyD (S : Sto) : D → Option String
  | .non => some "NoneType"
  | .bl _ => some "bool"
  | .int _ => some "int"
  | .str _ => some "str"
  | .tup _ => some "tuple"
  | .ref n => match S[n]? with
    | some (.lst _) => some "list"
    | some (.rdl _) => some "list"
    | some (.dk _) => some "dict"
    | some (.dt _) => some "dict"
    | _ => none
  | _ => none
def fIsi : FA
  | [x, .ty n], S => match tyD S x with
    | some t => (kitB t n).map fun b => (.bl b, S)
    | none => none
  | _, _ => none
theorem tyD_ok {K : PySem.W.Frag} {mg : Str → Option Value} {β : List Addr} {H : Hp} {S : Sto} {v : V} {d : D} {t : String} (r : Rl K mg β H S) (h : Vd K mg β H v d) (e : tyD S d = some t) : TyX K H v (.type t) := by
  cases h with
  | non => cases e; exact .base .non
  | bl b => cases e; exact .base (.bl b)
  | int i => cases e; exact .base (.int i)
  | str x => cases e; exact .base (.str x)
  | ty n => cases e
  | gl h => cases e
  | @tup a xs ds h1 h2 =>
    cases e
    exact .base (.tup h1)
  | @ref a n h1 =>
    unfold tyD at e
    dsimp only at e
    cases q : S[n]? with
    | none => rw [q] at e; cases e
    | some o =>
      rw [q] at e
      have ho := r.at' n a o h1 q
      cases o with
      | lst xs =>
        cases e
        obtain ⟨us, h2, _⟩ := ho
        exact .base (.lst h2)
      | rdl xs =>
        cases e
        obtain ⟨us, h2, _⟩ := ho
        rcases h2 with ⟨o, h2⟩ | ⟨o, its, n', hk, hc, hd, _⟩
        · exact .base (.frz h2)
        · exact .kList hk hc
      | dk xs =>
        cases e
        obtain ⟨us, h2, _⟩ := ho
        exact .base (.dK h2)
      | dt xs =>
        cases e
        obtain ⟨us, h2, _⟩ := ho
        exact .base (.dT h2)
      | _ => cases e
theorem o_isi : OpA X (rIsi X.K) fIsi := by
  intro β H S xs vs d S' Q r hv e k
  match xs, e, hv with
  | [x, .ty n], e, hv =>
    obtain ⟨v, w, rfl, h1, h2⟩ := hv.two
    cases h2
    unfold fIsi at e
    dsimp only at e
    cases q : tyD S x with
    | none => rw [q] at e; cases e
    | some t =>
      rw [q] at e
      dsimp only at e
      cases q2 : kitB t n with
      | none => rw [q2] at e; cases e
      | some b =>
        rw [q2] at e
        cases e
        exact ⟨v, .ty n, .type t, .type n, b, rfl, .ty n, tyD_ok r h1 q, kit_ty q2, k β H _ .refl r (.bl b)⟩
theorem me_isi {e c : Expr} {m mc : Mx} {p : Pos} (hm : X.mg "isinstance" = none) (ha : ME X W e m) (hc : ME X W c mc) (hg : Gl X "isinstance" := by rfl) (hs : starEach [e, c] X.env = [(false, eval e X.env), (false, eval c X.env)] := by rfl) (hs2 : starEach [c] X.env = [(false, eval c X.env)] := by rfl) :
    ME X W (.Call (.Name "isinstance" p) [e, c] [] pos) (mCB fIsi (mCons m (mCons mc mNil))) :=
  me_cb call_isi o_isi (ma_cons ha (ma_cons hc ma_nil hs2) (by rw [hs, hs2])) hm (by decide +kernel) hg (by decide) (by decide) (by rw [hs, hs2]) (by rw [hs2]; rfl)
/-! #### str(n), int(x), min, max, abs, list, tuple, ord -/
def fStr : FA
  | [.int i], S => if i.natAbs.log2 < 1920 then some (.str (toString i), S) else none
  | _, _ => none
theorem o_str : OpA X (fun xs H Q => ∃ i, xs = [.int i] ∧ i.natAbs.log2 < 1920 ∧ Q (.str (toString i)) H) fStr := by
  intro β H S xs vs d S' Q r hv e k
  match xs, e, hv with
  | [.int i], e, hv =>
    obtain ⟨v, rfl, h⟩ := hv.one
    cases h
    unfold fStr at e
    dsimp only at e
    split at e
    · rename_i hl
      cases e
      exact ⟨i, rfl, hl, k β H _ .refl r (.str _)⟩
    · cases e
theorem me_str1 {e : Expr} {m : Mx} {p : Pos} (hm : X.mg "str" = none) (ha : ME X W e m) (hg : Gl X "str" := by rfl) (hs : starEach [e] X.env = [(false, eval e X.env)] := by rfl) : ME X W (.Call (.Name "str" p) [e] [] pos) (mCB fStr (mCons m mNil)) :=
  me_cty call_str_int o_str (ma_cons ha ma_nil hs) hm (by decide +kernel) hg (by decide) (by decide) hs rfl
def fInt : FA
  | [.int i], S => some (.int i, S)
  | [.bl b], S => some (.int (if b then 1 else 0), S)
  | [.str a], S => if a.length ≤ 640 then (PySem.intText? a).map fun n => (.int n, S) else none
  | _, _ => none
def rIntA : List V → Hp → VK → Prop := fun xs H Q => ((∃ i, xs = [.int i] ∧ Q (.int i) H) ∨ ∃ k, xs = [.bl k] ∧ Q (.int (if k then 1 else 0)) H) ∨ ∃ a n, xs = [.str a] ∧ PySem.intText? a = some n ∧ a.length ≤ 640 ∧ Q (.int n) H
theorem o_int : OpA X rIntA fInt := by
  intro β H S xs vs d S' Q r hv e k
  match xs, e, hv with
  | [.int i], e, hv =>
    obtain ⟨v, rfl, h⟩ := hv.one
    cases h
    cases e
    exact .inl (.inl ⟨i, rfl, k β H _ .refl r (.int _)⟩)
  | [.bl b], e, hv =>
    obtain ⟨v, rfl, h⟩ := hv.one
    cases h
    cases e
    exact .inl (.inr ⟨b, rfl, k β H _ .refl r (.int _)⟩)
  | [.str a], e, hv =>
    obtain ⟨v, rfl, h⟩ := hv.one
    cases h
    unfold fInt at e
    dsimp only at e
    split at e
    · rename_i hl
      cases q : PySem.intText? a with
      | none => rw [q] at e; cases e
      | some n =>
        rw [q] at e
        cases e
        exact .inr ⟨a, n, rfl, q, hl, k β H _ .refl r (.int _)⟩
    · cases e
theorem me_int1 {e : Expr} {m : Mx} {p : Pos} (hm : X.mg "int" = none) (ha : ME X W e m) (hg : Gl X "int" := by rfl) (hs : starEach [e] X.env = [(false, eval e X.env)] := by rfl) : ME X W (.Call (.Name "int" p) [e] [] pos) (mCB fInt (mCons m mNil)) :=
  me_cty (CallR.or call_int1 call_int_str) o_int (ma_cons ha ma_nil hs) hm (by decide +kernel) hg (by decide) (by decide) hs rfl
def fMax : FA
  | [.int i, .int j], S => some (.int (if j > i then j else i), S)
  | _, _ => none
def fMin : FA
  | [.int i, .int j], S => some (.int (if j < i then j else i), S)
  | _, _ => none
theorem o_max : OpA X (fun xs H Q => ∃ i j, xs = [.int i, .int j] ∧ Q (.int (if j > i then j else i)) H) fMax := by
  intro β H S xs vs d S' Q r hv e k
  match xs, e, hv with
  | [.int i, .int j], e, hv =>
    obtain ⟨v, w, rfl, h, h'⟩ := hv.two
    cases h
    cases h'
    cases e
    exact ⟨i, j, rfl, k β H _ .refl r (.int _)⟩
theorem o_min : OpA X (fun xs H Q => ∃ i j, xs = [.int i, .int j] ∧ Q (.int (if j < i then j else i)) H) fMin := by
  intro β H S xs vs d S' Q r hv e k
  match xs, e, hv with
  | [.int i, .int j], e, hv =>
    obtain ⟨v, w, rfl, h, h'⟩ := hv.two
    cases h
    cases h'
    cases e
    exact ⟨i, j, rfl, k β H _ .refl r (.int _)⟩
theorem me_max2 {a b : Expr} {m m2 : Mx} {p : Pos} (hm : X.mg "max" = none) (ha : ME X W a m) (hb : ME X W b m2) (hc : X.calm = true := by rfl) (hg : Gl X "max" := by rfl) (hs : starEach [a, b] X.env = [(false, eval a X.env), (false, eval b X.env)] := by rfl) (hs2 : starEach [b] X.env = [(false, eval b X.env)] := by rfl) :
    ME X W (.Call (.Name "max" p) [a, b] [] pos) (mCB fMax (mCons m (mCons m2 mNil))) :=
  me_cb (call_max2 hc) o_max (ma_cons ha (ma_cons hb ma_nil hs2) (by rw [hs, hs2])) hm (by decide +kernel) hg (by decide) (by decide) (by rw [hs, hs2]) (by rw [hs2]; rfl)
theorem me_min2 {a b : Expr} {m m2 : Mx} {p : Pos} (hm : X.mg "min" = none) (ha : ME X W a m) (hb : ME X W b m2) (hc : X.calm = true := by rfl) (hg : Gl X "min" := by rfl) (hs : starEach [a, b] X.env = [(false, eval a X.env), (false, eval b X.env)] := by rfl) (hs2 : starEach [b] X.env = [(false, eval b X.env)] := by rfl) :
    ME X W (.Call (.Name "min" p) [a, b] [] pos) (mCB fMin (mCons m (mCons m2 mNil))) :=
  me_cb (call_min2 hc) o_min (ma_cons ha (ma_cons hb ma_nil hs2) (by rw [hs, hs2])) hm (by decide +kernel) hg (by decide) (by decide) (by rw [hs, hs2]) (by rw [hs2]; rfl)
def fAbs : FA
  | [.int i], S => some (.int (if i < 0 then -i else i), S)
  | _, _ => none
theorem me_abs {e : Expr} {m : Mx} {p : Pos} (hm : X.mg "abs" = none) (ha : ME X W e m) (hg : Gl X "abs" := by rfl) (hs : starEach [e] X.env = [(false, eval e X.env)] := by rfl) : ME X W (.Call (.Name "abs" p) [e] [] pos) (mCB fAbs (mCons m mNil)) :=
  me_cb call_abs (fun β H S xs vs d S' Q r hv e k => by
    match xs, e, hv with
    | [.int i], e, hv =>
      obtain ⟨v, rfl, h⟩ := hv.one
      cases h
      cases e
      exact ⟨i, rfl, k β H _ .refl r (.int _)⟩) (ma_cons ha ma_nil hs) hm (by decide +kernel) hg (by decide) (by decide) hs rfl
def fOrd : FA
  | [.str x], S => if x.length = 1 then some (.int (x.cps.getD 0 0 : Nat), S) else none
  | _, _ => none
theorem me_ord {e : Expr} {m : Mx} {p : Pos} (hm : X.mg "ord" = none) (ha : ME X W e m) (hg : Gl X "ord" := by rfl) (hs : starEach [e] X.env = [(false, eval e X.env)] := by rfl) : ME X W (.Call (.Name "ord" p) [e] [] pos) (mCB fOrd (mCons m mNil)) :=
  me_cb call_ord (fun β H S xs vs d S' Q r hv e k => by
    match xs, e, hv with
    | [.str x], e, hv =>
      obtain ⟨v, rfl, h⟩ := hv.one
      cases h
      unfold fOrd at e
      dsimp only at e
      split at e
      · rename_i hl
        cases e
        exact ⟨x, rfl, hl, k β H _ .refl r (.int _)⟩
      · cases e) (ma_cons ha ma_nil hs) hm (by decide +kernel) hg (by decide) (by decide) hs rfl
/-- list(xs): a new list of a list or tuple -/
def seqD (S : Sto) : D → Option (List D)
  | .tup ds => some ds
  | .ref n => lstAt S n
  | _ => none
def fList : FA
  | [d], S => (seqD S d).map fun ds => (.ref S.length, S ++ [.lst ds])
  | _, _ => none
theorem seqD_ok {K : PySem.W.Frag} {mg : Str → Option Value} {β : List Addr} {H : Hp} {S : Sto} {v : V} {d : D} {ds : List D} (r : Rl K mg β H S) (h : Vd K mg β H v d) (e : seqD S d = some ds) : ∃ p ys, v = .ref p ∧ (SqL K H p ys ∨ H p = some (.tup ys)) ∧ Vds K mg β H ys ds := by
  cases d with
  | tup xs =>
    cases e
    obtain ⟨a, us, rfl, h1, h2⟩ := h.tup_at
    exact ⟨a, us, rfl, .inr h1, h2⟩
  | ref n =>
    obtain ⟨a, rfl, h1⟩ := h.ref_inv
    obtain ⟨us, h2, h3⟩ := lst_read r h1 e
    exact ⟨a, us, rfl, .inl h2, h3⟩
  | _ => cases e
theorem me_list1 {e : Expr} {m : Mx} {p : Pos} (hm : X.mg "list" = none) (ha : ME X W e m) (hg : Gl X "list" := by rfl) (hs : starEach [e] X.env = [(false, eval e X.env)] := by rfl) : ME X W (.Call (.Name "list" p) [e] [] pos) (mCB fList (mCons m mNil)) :=
  me_cty call_list_of (fun β H S xs vs d S' Q r hv e k => by
    match xs, e, hv with
    | [x], e, hv =>
      obtain ⟨v, rfl, h⟩ := hv.one
      unfold fList at e
      dsimp only at e
      cases q : seqD S x with
      | none => rw [q] at e; cases e
      | some ds =>
        rw [q] at e
        cases e
        obtain ⟨p, ys, rfl, h1, h2⟩ := seqD_ok r h q
        refine ⟨p, ys, rfl, h1.imp id .of, fun l hl => ?_⟩
        obtain ⟨x1, r1, v1⟩ := r.newL h2 hl
        exact k _ _ _ x1 r1 v1) (ma_cons ha ma_nil hs) hm (by decide +kernel) hg (by decide) (by decide) hs rfl
def fTuple : FA
  | [d], S => (seqD S d).map fun ds => (.tup ds, S)
  | _, _ => none
theorem me_tuple1 {e : Expr} {m : Mx} {p : Pos} (hm : X.mg "tuple" = none) (ha : ME X W e m) (hg : Gl X "tuple" := by rfl) (hs : starEach [e] X.env = [(false, eval e X.env)] := by rfl) : ME X W (.Call (.Name "tuple" p) [e] [] pos) (mCB fTuple (mCons m mNil)) :=
  me_cty call_tuple_of (fun β H S xs vs d S' Q r hv e k => by
    match xs, e, hv with
    | [x], e, hv =>
      obtain ⟨v, rfl, h⟩ := hv.one
      unfold fTuple at e
      dsimp only at e
      cases q : seqD S x with
      | none => rw [q] at e; cases e
      | some ds =>
        rw [q] at e
        cases e
        obtain ⟨p, ys, rfl, h1, h2⟩ := seqD_ok r h q
        refine ⟨p, ys, rfl, ?_⟩
        rcases h1 with h1 | h1
        · exact .inl ⟨h1, fun l hl => k β _ _ (xt_new' hl) (r.tup hl) (.tup upd_same (h2.ext (xt_new' hl)))⟩
        · exact .inr ⟨.of h1, k β H _ .refl r (.tup h1 h2)⟩) (ma_cons ha ma_nil hs) hm (by decide +kernel) hg (by decide) (by decide) hs rfl
end
end Eng

/-! The engine, part 5: methods of built-in types, defs and their calls, comprehensions. -/
namespace Eng
open PySem PySem.Spec PyProof.Rows L2
variable [TabCfg]
section
variable {X : Cx} {W : WX} {pos : Pos}
/-! ### o.m(..), m a built-in's method -/
abbrev FM := D → List D → Sto → Option (D × Sto)
def mBM (ck : D → Sto → Bool) (f : FM) (mo : Mx) (ma : Ma) : Mx := fun ρ S => (mo ρ S).bind fun o S1 => if ck o S1 = true then (ma ρ S1).bind fun ds S2 => R.ofO (f o ds S2) else .stuck
def OpM (X : Cx) (T : String) (ck : D → Sto → Bool) (r : V → List V → Hp → VK → Prop) (f : FM) : Prop :=
  (∀ β H S o v, Rl X.K X.mg β H S → Vd X.K X.mg β H v o → ck o S = true → tyV X.K T v H) ∧
  ∀ β H S o v xs vs d S' Q, Rl X.K X.mg β H S → Vd X.K X.mg β H v o → Vds X.K X.mg β H vs xs → f o xs S = some (d, S') →
    (∀ β' H' w, Xt X.K β H β' H' → Rl X.K X.mg β' H' S' → Vd X.K X.mg β' H' w d → Q w H') → r v vs H Q
section
variable {T id : String} {r : V → List V → Hp → VK → Prop} {ck : D → Sto → Bool} {f : FM} {o e : Expr} {es : List Expr} {mo : Mx} {ma : Ma} {name : Str} {apos : Pos}
theorem me_bm (pa : PlainAttrs T) (slot : Slot T name id) (hty : typeOf (.builtin id) = pure (.type "method_descriptor")) (hm : MtR X id r) (hf : OpM X T ck r f) (ho : ME X W o mo) (ha : MA X W (e :: es) ma)
    (hbase : attributeBase o name X.env (eval o X.env) = eval o X.env := by rfl)
    (hfew : ((backTo pos (starEach (e :: es) X.env)).all (fun x => !x.1) && (backToKw pos (keywordEach [] X.env)).all (fun x => x.1.isSome) && decide ((e :: es).length + ([] : List Keyword).length + (if ([] : List Keyword).isEmpty then 0 else 1) < 30)) = true := by rfl)
    (hline : (apos.endLine == pos.line) = true := by rfl) (hs : starEach (e :: es) X.env = (false, eval e X.env) :: starEach es X.env := by rfl) (hplain : (backTo pos (starEach es X.env)).any (·.1) = false := by rfl) :
    ME X W (.Call (.Attribute o name apos) (e :: es) [] pos) (mBM ck f mo ma) := by
  refine ⟨PE.weak (pe_bm pa slot hty hm ho.pe ha.pa hbase hfew hline hs hplain) fun σ H Q ⟨β, S, ρ, rl, en, p⟩ => ⟨β, S, ρ, rl, en, p.bind.mono fun d β1 S1 H1 x1 r1 q v hv => ?_⟩⟩
  split at q
  · rename_i hk
    refine ⟨hf.1 β1 H1 S1 d v r1 hv hk, β1, S1, ρ, r1, en.ext x1, q.bind.mono fun ds β2 S2 H2 x2 r2 q2 vs hvs => ?_⟩
    obtain ⟨z, S3, e3, k⟩ := q2.ofO
    exact hf.2 β2 H2 S2 d v ds vs z S3 Q r2 (hv.ext x2) hvs e3 fun β' H' w x r hw => k β' H' x r w hw
  · exact q.elim
theorem me_bm0 (pa : PlainAttrs T) (slot : Slot T name id) (hty : typeOf (.builtin id) = pure (.type "method_descriptor")) (hm : MtR X id r) (hf : OpM X T ck r f) (ho : ME X W o mo)
    (hbase : attributeBase o name X.env (eval o X.env) = eval o X.env := by rfl) (hline : (apos.endLine == pos.line) = true := by rfl) :
    ME X W (.Call (.Attribute o name apos) [] [] pos) (mBM ck f mo mNil) := by
  refine ⟨PE.weak (pe_bm0 pa slot hty hm ho.pe hbase hline) fun σ H Q ⟨β, S, ρ, rl, en, p⟩ => ⟨β, S, ρ, rl, en, p.bind.mono fun d β1 S1 H1 x1 r1 q v hv => ?_⟩⟩
  split at q
  · rename_i hk
    refine ⟨hf.1 β1 H1 S1 d v r1 hv hk, ?_⟩
    have q1 : Po X.K X.mg W σ β1 H1 (R.ofO (f d [] S1)) _ := q
    obtain ⟨z, S3, e3, k⟩ := q1.ofO
    exact hf.2 β1 H1 S1 d v [] [] z S3 Q r1 hv .nil e3 fun β' H' w x r hw => k β' H' x r w hw
  · exact q.elim
end
def ckL : D → Sto → Bool := fun o S => match o with
  | .ref n => (lstAt S n).isSome
  | _ => false
theorem ckL_ok {β : List Addr} {H : Hp} {S : Sto} {o : D} {v : V} (r : Rl X.K X.mg β H S) (h : Vd X.K X.mg β H v o) (e : ckL o S = true) : tyV X.K "list" v H := by
  cases o with
  | ref n =>
    obtain ⟨a, rfl, h1⟩ := h.ref_inv
    obtain ⟨ds, q⟩ := Option.isSome_iff_exists.mp (show (lstAt S n).isSome = true from e)
    obtain ⟨us, h2, _⟩ := lst_read r h1 q
    exact .inl ⟨rfl, us, h2⟩
  | _ => cases e
def fAppend : FM
  | .ref n, [d], S => match S[n]? with
    | some (.lst xs) => if xs.length < sizeLine then some (.non, S.set n (.lst (xs ++ [d]))) else none
    | _ => none
  | _, _, _ => none
theorem o_append : OpM X "list" ckL rAppend fAppend := by
  refine ⟨fun β H S o v r h e => ckL_ok r h e, ?_⟩
  intro β H S o v xs vs d S' Q r ho hv e k
  match o, xs, e, ho, hv with
  | .ref n, [y], e, ho, hv =>
    obtain ⟨a, rfl, h1⟩ := ho.ref_inv
    obtain ⟨w, rfl, h2⟩ := hv.one
    unfold fAppend at e
    dsimp only at e
    split at e
    · rename_i ds q
      split at e
      · rename_i hl
        cases e
        obtain ⟨us, h3, h4⟩ := r.lst_at h1 q
        refine ⟨a, us, w, rfl, rfl, h3, by rw [h4.length]; exact hl, ?_⟩
        obtain ⟨r', x'⟩ := r.write (o := .lst (us ++ [w])) (b' := .lst (ds ++ [y])) h1 q rfl rfl fun x => ⟨_, upd_same, (h4.append (.cons h2 .nil)).ext x⟩
        exact k β _ _ x' r' .non
      · cases e
    · cases e
theorem me_append {o e : Expr} {mo m : Mx} {apos : Pos} (ho : ME X W o mo) (ha : ME X W e m) (hbase : attributeBase o "append" X.env (eval o X.env) = eval o X.env := by rfl)
    (hfew : ((backTo pos (starEach [e] X.env)).all (fun x => !x.1) && (backToKw pos (keywordEach [] X.env)).all (fun x => x.1.isSome) && decide ([e].length + ([] : List Keyword).length + (if ([] : List Keyword).isEmpty then 0 else 1) < 30)) = true := by rfl)
    (hline : (apos.endLine == pos.line) = true := by rfl) (hs : starEach [e] X.env = [(false, eval e X.env)] := by rfl) : ME X W (.Call (.Attribute o "append" apos) [e] [] pos) (mBM ckL fAppend mo (mCons m mNil)) :=
  me_bm PySem.F.plainAttrs_list PySem.F.slot_list_append PySem.F.type_list_append mt_append o_append ho (ma_cons ha ma_nil hs) hbase hfew hline hs rfl
end

/-! ### defs -/
def mDef (n : Nat) (b : Ms) : List D → Sto → R D := fun ds S => match b (ds.map some ++ List.replicate (n - ds.length) none) S with
  | .fl (.nx _) S' => .ok .non S'
  | .fl (.rt d) S' => .ok d S'
  | .ex x _ S' => .ex x S'
  | .stuck => .stuck
def spM (K : PySem.W.Frag) (mg : Str → Option Value) (n : Nat) (m : List D → Sto → R D) : Sp := fun vs H Q E => vs.length = n ∧ ∃ β S ds, Rl K mg β H S ∧ Vds K mg β H vs ds ∧
  match m ds S with
  | .ok d S' => ∀ β' H' v, Xt K β H β' H' → Rl K mg β' H' S' → Vd K mg β' H' v d → Q v H'
  | .ex x S' => ∀ cls od β' H', Xt K β H β' H' → Rl K mg β' H' S' → Xd K mg β' H' cls od x → E cls od H'
  | .stuck => False
section
variable {P : Program} {w : World} {K : PySem.W.Frag} {mg : Str → Option Value} {base : Heap}
theorem en_start {β : List Addr} {H : Hp} {vs : List V} {ds : List D} {N : List Str} (h : Vds K mg β H vs ds) : En K mg β H (ds.map some ++ List.replicate (N.length - ds.length) none) (L2.start N vs) := by
  have hl := h.length
  unfold L2.start
  refine ⟨by simp [hl], fun i d e => ?_⟩
  by_cases hi : i < ds.length
  · rw [List.getElem?_append_left (by simpa using hi), List.getElem?_map] at e
    rw [List.getElem?_append_left (by simp [hl]; exact hi), List.getElem?_map]
    cases q : ds[i]? with
    | none => rw [q] at e; cases e
    | some d' =>
      rw [q] at e
      cases e
      obtain ⟨v, h1, h2⟩ := h.get q
      exact ⟨v, by rw [h1]; rfl, h2⟩
  · rw [List.getElem?_append_right (by simp; omega), List.getElem?_replicate] at e
    split at e <;> cases e
theorem fn_ok {x qual : Str} {st : Stmt} {f : Addr} {fd : FuncData} {N ps : List Str} {k : Nat} {b : Ms} (F : Fun K x qual st f fd) (S : FnScope N ps (defScope st))
    (h : ∀ (cdv : Value) (A : Around) (outer : List Env) (s : Shared) (H : Hp) (E : XK), Room k (A.deeper (envOfC qual (defScope st) s.heap.objs.size f cdv)) →
      MSs (cxOf (L2.CX P w) P w K mg base N qual (defScope st) f cdv A outer s H E) (fun cls d _ H => E cls d H) (defBody st) b) : FnOk P w K mg base (L2.CX P w) (k + 1) f fd ps (spM K mg ps.length (mDef N.length b)) := by
  refine F.okX S (fun vs H Q E hq => hq.1) fun cdv A outer s H vs Q E hr ⟨_, β, S, ds, rl, hv, q⟩ => ⟨_, (h cdv A outer s H E hr).ps, β, S, _, rl, en_start hv, ?_⟩
  unfold mDef at q
  show PoS K mg _ β H (b (ds.map some ++ List.replicate (N.length - ds.length) none) S) _
  cases e : b (ds.map some ++ List.replicate (N.length - ds.length) none) S with
  | fl g S' =>
    rw [e] at q
    cases g with
    | nx ρ => exact fun β' H' σ' x r _ => q β' H' .non x r .non
    | rt d => exact fun β' H' v x r hv => q β' H' v x r hv
  | ex x ρ S' => rw [e] at q; exact fun cls od β' H' σ' y r _ hx => q cls od β' H' y r hx
  | stuck => rw [e] at q; exact q
/-- the promise by another name of the same meaning -/
theorem FnOk.as {k : Nat} {f : Addr} {fd : FuncData} {ps : List Str} {n : Nat} {m m' : List D → Sto → R D} (h : FnOk P w K mg base (L2.CX P w) k f fd ps (spM K mg n m)) (e : m = m') : FnOk P w K mg base (L2.CX P w) k f fd ps (spM K mg n m') := by
  subst e; exact h
end
section
variable {X : Cx} {W : WX} {pos p : Pos} {x : Str} {e : Expr} {es : List Expr} {ma : Ma} {k j : Nat} {f : Addr} {fd : FuncData} {ps : List Str} {n : Nat} {m : List D → Sto → R D}
def mCall (m : List D → Sto → R D) (ma : Ma) : Mx := fun ρ S => (ma ρ S).bind m
def mCall0 (m : List D → Sto → R D) : Mx := fun _ S => match m [] S with
  | .ok d S' => .ok d S'
  | _ => .stuck
theorem call_sp {σ : L2.St} {β : List Addr} {H : Hp} {S : Sto} {ds : List D} {vs : List V} {Q : VK} (hn : vs.length = n) (r : Rl X.K X.mg β H S) (hv : Vds X.K X.mg β H vs ds) (q : Po X.K X.mg W σ β H (m ds S) fun d β' _ H' => ∀ v, Vd X.K X.mg β' H' v d → Q v H') : spM X.K X.mg n m vs H Q (WE W σ) := by
  refine ⟨hn, β, S, ds, r, hv, ?_⟩
  cases e : m ds S with
  | ok d S' => rw [e] at q; exact fun β' H' v x r hv => q β' H' x r v hv
  | ex z S' => rw [e] at q; exact fun cls od β' H' x r hx => q cls od β' H' x r hx
  | stuck => rw [e] at q; exact q
theorem me_call (F : FnOk X.prog X.w X.K X.mg X.base (L2.CX X.prog X.w) k f fd ps (spM X.K X.mg n m)) (hr : Room j X.A) (hk : PySem.W.keepIn X.K (.ref f) = true) (hm : X.mg x = some (.ref f)) (hb : Binds X.K fd ps []) (tk : Takes X W) (ha : MA X W (e :: es) ma) (hl : ∀ β H vs ds ρ S S', Vds X.K X.mg β H vs ds → ma ρ S = .ok ds S' → vs.length = n)
    (hkj : k ≤ j := by decide) (hg : Gl X x := by rfl) (hdb : (x == ("__debug__" : Str)) = false := by decide) (he : starEach (e :: es) X.env = (false, eval e X.env) :: starEach es X.env := by rfl) (hpl : (backTo pos (starEach es X.env)).any (·.1) = false := by rfl) :
    ME X W (.Call (.Name x p) (e :: es) [] pos) (mCall m ma) := by
  refine ⟨PE.weak (pe_callS F (hr.mono hkj) hg hm hk hb (fun σ => passAt tk σ) ha.pa hdb he hpl) fun σ H Q ⟨β, S, ρ, rl, en, p⟩ => ⟨β, S, ρ, rl, en, ?_⟩⟩
  have q := (show Po X.K X.mg W σ β H ((ma ρ S).bind m) _ from p).bind
  cases e : ma ρ S with
  | ok ds S1 =>
    rw [e] at q
    exact fun β1 H1 x1 r1 vs hv => call_sp (hl β1 H1 vs ds ρ S S1 hv e) r1 hv (q β1 H1 x1 r1)
  | ex z S1 => rw [e] at q; exact q
  | stuck => rw [e] at q; exact q
theorem me_call0 (F : FnOk X.prog X.w X.K X.mg X.base (L2.CX X.prog X.w) k f fd ps (spM X.K X.mg 0 m)) (hr : Room j X.A) (hk : PySem.W.keepIn X.K (.ref f) = true) (hm : X.mg x = some (.ref f)) (hb : Binds X.K fd ps []) (hkj : k ≤ j := by decide) (hg : Gl X x := by rfl) (hdb : (x == ("__debug__" : Str)) = false := by decide) :
    ME X W (.Call (.Name x p) [] [] pos) (mCall0 m) := by
  refine ⟨PE.weak (pe_call0 (E := E0) F (hr.mono hkj) hg hm hk hb .nil passL hdb) fun σ H Q ⟨β, S, ρ, rl, en, p⟩ => ?_⟩
  refine ⟨rfl, β, S, [], rl, .nil, ?_⟩
  unfold mCall0 at p
  cases e : m [] S with
  | ok d S' => rw [e] at p; exact fun β' H' v x r hv => p β' H' x r v hv
  | ex z S' => rw [e] at p; exact p.elim
  | stuck => rw [e] at p; exact p
/-- how many arguments come -/
theorem len_cons {m1 : Mx} {mr : Ma} {n : Nat} (h : ∀ β H vs ds ρ S S', Vds X.K X.mg β H vs ds → mr ρ S = .ok ds S' → vs.length = n) : ∀ β H vs ds ρ S S', Vds X.K X.mg β H vs ds → mCons m1 mr ρ S = .ok ds S' → vs.length = n + 1 := by
  intro β H vs ds ρ S S' hv e
  unfold mCons at e
  cases q : m1 ρ S with
  | ok d S1 =>
    rw [q] at e
    cases q2 : mr ρ S1 with
    | ok es S2 =>
      have e' : (R.ok (d :: es) S2 : R (List D)) = .ok ds S' := by
        rw [← e]
        show _ = (mr ρ S1).bind _
        rw [q2]; rfl
      cases e'
      cases hv with
      | cons h1 t => exact congrArg (· + 1) (h β H _ _ ρ S1 _ t q2)
    | ex x S2 =>
      have e' : (R.ex x S2 : R (List D)) = .ok ds S' := by
        rw [← e]
        show _ = (mr ρ S1).bind _
        rw [q2]; rfl
      cases e'
    | stuck =>
      have e' : (R.stuck : R (List D)) = .ok ds S' := by
        rw [← e]
        show _ = (mr ρ S1).bind _
        rw [q2]; rfl
      cases e'
  | ex x S1 => rw [q] at e; cases e
  | stuck => rw [q] at e; cases e
theorem len_nil : ∀ β H vs ds ρ S S', Vds X.K X.mg β H vs ds → mNil ρ S = .ok ds S' → vs.length = 0 := by
  intro β H vs ds ρ S S' hv e
  cases e
  cases hv
  rfl
end

/-! ### comprehensions: one for over a name or names, at most one if -/
def wipeD (ρ : Env') : List Nat → Env'
  | [] => ρ
  | v :: vs => (wipeD ρ vs).set v none
def W0 : WX := fun _ _ _ _ => False
def mYes : Mb := fun _ S => .ok true S
def lcF (it : ItD) (f : Ft) (mt : Mb) (m : Mx) (ρ : Env') (n : Nat) : Nat → Nat → Sto → R D
  | 0, _, S => if it.fin S = true then .ok (.ref n) S else .stuck
  | k + 1, i, S => match it.nx i S with
    | none => .stuck
    | some d => match f d ρ with
      | none => .stuck
      | some ρ1 => match mt ρ1 S with
        | .ok false S1 => lcF it f mt m ρ n k (i + 1) S1
        | .ok true S1 => match m ρ1 S1 with
          | .ok y S2 => match S2[n]? with
            | some (.lst acc) => if acc.length < sizeLine then lcF it f mt m ρ n k (i + 1) (S2.set n (.lst (acc ++ [y]))) else .stuck
            | _ => .stuck
          | _ => .stuck
        | _ => .stuck
def mLc (mi : Mi) (f : Ft) (mt : Mb) (m : Mx) (own : List Nat) : Mx := fun ρ S => (mi ρ S).bind fun it S1 => lcF it f mt m (wipeD ρ own) S1.length it.cnt 0 (S1 ++ [.lst []])
section
variable {K : PySem.W.Frag} {mg : Str → Option Value} {β : List Addr} {H : Hp} {ρ : Env'} {σ : L2.St}
theorem En.wipe (e : En K mg β H ρ σ) : ∀ own : List Nat, En K mg β H (wipeD ρ own) (L2.wipe σ own)
  | [] => e
  | v :: vs => by
    have ih := En.wipe e vs
    unfold wipeD L2.wipe
    refine ⟨by rw [List.length_set, List.length_set]; exact ih.len, fun j d q => ?_⟩
    by_cases hj : v = j
    · subst hj
      by_cases hl : v < (wipeD ρ vs).length
      · rw [List.getElem?_set_self hl] at q; cases q
      · rw [List.getElem?_eq_none (by rw [List.length_set]; omega)] at q; cases q
    · rw [List.getElem?_set_ne hj] at q ⊢
      exact ih.at' j d q
theorem wipe_set {i : Nat} {x : Option V} : ∀ {own : List Nat} {σ : L2.St}, i ∈ own → L2.wipe (σ.set i x) own = L2.wipe σ own
  | [], _, h => by cases h
  | v :: vs, σ, h => by
    unfold L2.wipe
    by_cases hv : v = i
    · subst hv
      by_cases hm : v ∈ vs
      · rw [wipe_set hm]
      · have comm : ∀ (l : List Nat) (σ : L2.St), v ∉ l → L2.wipe (σ.set v x) l = (L2.wipe σ l).set v x := by
          intro l
          induction l with
          | nil => intro σ _; rfl
          | cons b l ih =>
            intro σ hb
            have h1 : b ≠ v := fun e => hb (by rw [e]; exact List.mem_cons_self)
            have h2 : v ∉ l := fun e => hb (List.mem_cons_of_mem _ e)
            unfold L2.wipe
            rw [ih σ h2, List.set_comm _ _ (fun e => h1 e.symm)]
        rw [comm vs σ hm, List.set_set]
    · rcases List.mem_cons.mp h with e | e
      · exact absurd e.symm hv
      · rw [wipe_set e]
/-- the slots that a target of names sets -/
def setAllV : List Nat → List V → L2.St → L2.St
  | i :: is, v :: vs, σ => setAllV is vs (σ.set i (some v))
  | _, _, σ => σ
theorem wipe_setAll : ∀ {is : List Nat} {vs : List V} {σ : L2.St} {own : List Nat}, (∀ i ∈ is, i ∈ own) → L2.wipe (setAllV is vs σ) own = L2.wipe σ own
  | [], _, _, _, _ => rfl
  | _ :: _, [], _, _, _ => rfl
  | i :: is, v :: vs, σ, own, h => by
    unfold setAllV
    rw [wipe_setAll (fun j hj => h j (List.mem_cons_of_mem _ hj)), wipe_set (h i List.mem_cons_self)]
theorem wipe_wipe : ∀ {own l : List Nat} {σ : L2.St}, (∀ i ∈ l, i ∈ own) → L2.wipe (L2.wipe σ l) own = L2.wipe σ own
  | _, [], _, _ => rfl
  | own, v :: vs, σ, h => by
    show L2.wipe ((L2.wipe σ vs).set v none) own = _
    rw [wipe_set (h v List.mem_cons_self), wipe_wipe fun j hj => h j (List.mem_cons_of_mem _ hj)]
theorem En.setAll : ∀ {is : List Nat} {vs : List V} {ds : List D} {ρ : Env'} {σ : L2.St}, En K mg β H ρ σ → Vds K mg β H vs ds → En K mg β H (setAll is ds ρ) (setAllV is vs σ)
  | [], _, _, _, _, e, _ => e
  | _ :: _, _, _, _, _, e, .nil => e
  | i :: is, _ :: vs, _ :: ds, ρ, σ, e, .cons h t => En.setAll (is := is) (vs := vs) (ds := ds) (e.set i h) t
end
/-- a comprehension's target: which slots it sets, the rest as it is -/
structure MGc (X : Cx) (tg : Expr) (is : List Nat) (f : Ft) : Prop where
  pg : PG X tg (fun v σ H Q => ∃ β S ρ d ρ', Rl X.K X.mg β H S ∧ En X.K X.mg β H ρ σ ∧ Vd X.K X.mg β H v d ∧ f d ρ = some ρ' ∧ ∀ vs, En X.K X.mg β H ρ' (setAllV is vs σ) → Q (setAllV is vs σ) H)
section
variable {X : Cx} {W : WX} {pos : Pos}
theorem mgc_name {i : Nat} {x : Str} (hN : X.N.Nodup) (hi : X.N[i]? = some x := by rfl) (hx : Loc X.env.scope x := by first | exact .inl rfl | exact .inr rfl) (hf : X.fn x = true ∨ X.env.scope.names.lookup x = some .local := by first | exact .inl rfl | exact .inr rfl) : MGc X (.Name x pos) [i] (fName i) :=
  ⟨PG.weak (pg_name hN hi hx hf) fun v σ H Q ⟨β, S, ρ, d, ρ', rl, en, hv, e, q⟩ => by
    cases e
    exact q [v] (en.set i hv)⟩
structure MGcs (X : Cx) (ts : List Expr) (is : List Nat) : Prop where
  pgs : PGs X ts (fun vs σ H Q => vs.length = is.length ∧ Q (setAllV is vs σ) H)
theorem mgcs_nil : MGcs X [] [] := ⟨PGs.weak pgs_nil fun vs σ H Q ⟨hl, q⟩ => by
  cases vs with
  | nil => exact ⟨rfl, q⟩
  | cons v vs => cases hl⟩
theorem mgcs_cons {i : Nat} {is : List Nat} {x : Str} {es : List Expr} (h2 : MGcs X es is) (hN : X.N.Nodup) (hi : X.N[i]? = some x := by rfl) (hx : Loc X.env.scope x := by first | exact .inl rfl | exact .inr rfl) (hf : X.fn x = true ∨ X.env.scope.names.lookup x = some .local := by first | exact .inl rfl | exact .inr rfl)
    (hs : (assignEach (.Name x pos :: es) X.env).map (·.2) = assign (.Name x pos) X.env :: (assignEach es X.env).map (·.2) := by rfl) : MGcs X (.Name x pos :: es) (i :: is) := by
  refine ⟨PGs.weak (pgs_cons (pg_name hN hi hx hf) h2.pgs hs) fun vs σ H Q ⟨hl, q⟩ => ?_⟩
  cases vs with
  | nil => cases hl
  | cons v vs => exact ⟨v, vs, rfl, Nat.succ.inj hl, q⟩
theorem mgc_tup {es : List Expr} {k : Nat} {is : List Nat} (h : MGcs X es is) (hc : X.calm = true := by rfl)
    (hn : (assignEach es X.env).length = is.length := by rfl) (hst : (assignEach es X.env).findIdx? (·.1) = none := by rfl) : MGc X (.Tuple es k pos) is (fNames is) :=
  ⟨PG.weak (pg_tup hc h.pgs hn hst) fun v σ H Q ⟨β, S, ρ, d, ρ', rl, en, hv, e, q⟩ => by
    cases d with
    | tup ds =>
      unfold fNames at e
      dsimp only at e
      split at e
      · rename_i hl
        cases e
        obtain ⟨a, xs, rfl, h1, h2⟩ := hv.tup_inv
        have hxl : xs.length = is.length := by rw [h2.length]; exact hl
        exact ⟨a, xs, rfl, h1, hxl, hxl, q xs (en.setAll h2)⟩
      · cases e
    | _ => cases e⟩
structure MTs (X : Cx) (W : WX) (ifs : List Expr) (m : Mb) : Prop where
  pts : PTs X ifs (tMT X.K X.mg W m)
theorem PTs.weak {e : List Expr} {t t' : TT} (h : PTs X e t) (i : ∀ σ H Q, t' σ H Q → t σ H Q) : PTs X e t' := ⟨fun pins s σ H Q I q => h.run pins s σ H Q I (i σ H Q q)⟩
theorem mts_nil : MTs X W [] mYes := ⟨PTs.weak pts_nil fun σ H Q ⟨β, S, ρ, rl, en, p⟩ => p β H .refl rl⟩
theorem mts_one {c : Expr} {m : Mb} (h : MT X W c m) : MTs X W [c] m := ⟨pts_one h.pt⟩
theorem tW0_ok {α : Type} {K : PySem.W.Frag} {mg : Str → Option Value} {σ : L2.St} {β : List Addr} {H : Hp} {r : R α} {d : α} {S : Sto} {G : α → List Addr → Sto → Hp → Prop} (e : r = .ok d S) (g : ∀ β' H', Xt K β H β' H' → Rl K mg β' H' S → G d β' S H') : Po K mg W0 σ β H r G := by
  subst e
  exact g
/-- the reading of the rule from the meaning -/
theorem lc_of {mi : Mi} {f : Ft} {mt : Mb} {m : Mx} {own is : List Nat} {g : TG} (hg : ∀ v σ H Q, (∃ β S ρ d ρ', Rl X.K X.mg β H S ∧ En X.K X.mg β H ρ σ ∧ Vd X.K X.mg β H v d ∧ f d ρ = some ρ' ∧ ∀ vs, En X.K X.mg β H ρ' (setAllV is vs σ) → Q (setAllV is vs σ) H) → g v σ H Q) (his : ∀ i ∈ is, i ∈ own) {σ : L2.St} {H : Hp} {Q : VK} (h : tM X.K X.mg W (mLc mi f mt m own) σ H Q) :
    tLc (tMI X.K X.mg W mi) g (tMT X.K X.mg W0 mt) (tM X.K X.mg W0 m) own σ H Q := by
  obtain ⟨β, S, ρ, rl, en, p⟩ := h
  refine ⟨β, S, ρ, rl, en, (Po.bind p).mono fun it β1 S1 H1 x1 r1 q J hJ Dl hD => ?_⟩
  obtain ⟨xn, rn, vn⟩ := r1.newL (ds := []) (vs := []) .nil hD
  -- the list's own place stays
  refine ⟨fun i k H => ∃ β S, Xt X.K β1 H1 β H ∧ β[S1.length]? = some Dl ∧ Rl X.K X.mg β H S ∧ i + k = it.cnt ∧ Po X.K X.mg W σ β H (lcF it f mt m (wipeD ρ own) S1.length k i S) (fun d β' _ H' => ∀ v, Vd X.K X.mg β' H' v d → Q v H'), ⟨it.cnt, β1 ++ [Dl], S1 ++ [.lst []], xn, ?_, rn, Nat.zero_add _, q.xt xn⟩, ?_⟩
  · obtain ⟨a, e, h1⟩ := vn.ref_inv
    cases e
    exact h1
  rintro i k H2 ⟨β2, S2, x2, hL, r2, hm, p2⟩
  obtain ⟨h1, h2⟩ := hJ β2 H2 S2 x2 r2
  cases k with
  | zero =>
    unfold lcF at p2
    split at p2
    · rename_i hf
      have e : i = it.cnt := by omega
      subst e
      exact .inl ⟨h2 hf, p2 β2 H2 .refl r2 _ (.ref hL)⟩
    · exact p2.elim
  | succ k =>
    unfold lcF at p2
    cases e1 : it.nx i S2 with
    | none => rw [e1] at p2; exact p2.elim
    | some d =>
      rw [e1] at p2
      dsimp only at p2
      cases e2 : f d (wipeD ρ own) with
      | none => rw [e2] at p2; exact p2.elim
      | some ρ1 =>
        rw [e2] at p2
        dsimp only at p2
        obtain ⟨go, yld⟩ := h1 i d (by omega) e1
        refine .inr ⟨go, fun H => ∃ β S, Xt X.K β1 H1 β H ∧ β[S1.length]? = some Dl ∧ Rl X.K X.mg β H S ∧ (i + 1) + k = it.cnt ∧ Po X.K X.mg W σ β H (lcF it f mt m (wipeD ρ own) S1.length k (i + 1) S) (fun d β' _ H' => ∀ v, Vd X.K X.mg β' H' v d → Q v H'), fun H' w => ⟨k, Nat.lt_succ_self k, w⟩, fun v H3 hy => ?_⟩
        obtain ⟨x3, r3, hv⟩ := yld v H3 hy
        refine hg v _ H3 _ ⟨β2, S2, wipeD ρ own, d, ρ1, r3, ((en.ext (x1.trans (x2.trans x3))).wipe own), hv, e2, fun vs en2 => ⟨?_, β2, S2, ρ1, r3, en2, ?_⟩⟩
        · rw [wipe_setAll his, wipe_wipe fun i hi => hi]
        · cases e3 : mt ρ1 S2 with
          | ok b S3 =>
            rw [e3] at p2
            intro β4 H4 x4 r4
            cases b with
            | false =>
              rw [if_neg Bool.false_ne_true]
              exact ⟨β4, S3, (x2.trans x3).trans x4, x4.at' (x3.at' hL), r4, by omega, Po.xt p2 (x3.trans x4)⟩
            | true =>
              rw [if_pos rfl]
              dsimp only at p2
              refine ⟨β4, S3, ρ1, r4, en2.ext x4, ?_⟩
              cases e4 : m ρ1 S3 with
              | ok y S4 =>
                rw [e4] at p2
                dsimp only at p2
                intro β5 H5 x5 r5 w hw
                have hL5 : β5[S1.length]? = some Dl := x5.at' (x4.at' (x3.at' hL))
                split at p2
                · rename_i acc q4
                  split at p2
                  · rename_i hz
                    obtain ⟨us, h3, h4⟩ := r5.lst_at hL5 q4
                    obtain ⟨r6, x6⟩ := r5.write (o := .lst (us ++ [w])) (b' := .lst (acc ++ [y])) hL5 q4 rfl rfl fun x => ⟨_, upd_same, (h4.append (.cons hw .nil)).ext x⟩
                    exact ⟨us, h3, by rw [h4.length]; exact hz, β5, _, (((x2.trans x3).trans x4).trans x5).trans x6, x6.at' hL5, r6, by omega, Po.xt p2 (((x3.trans x4).trans x5).trans x6)⟩
                  · exact p2.elim
                · exact p2.elim
              | ex z S4 => rw [e4] at p2; exact p2.elim
              | stuck => rw [e4] at p2; exact p2.elim
          | ex z S3 => rw [e3] at p2; exact p2.elim
          | stuck => rw [e3] at p2; exact p2.elim
theorem me_lc {elt tg iter : Expr} {ifs : List Expr} {scope : Scope} {own : List (Str × Nat)} {mi : Mi} {f : Ft} {mt : Mb} {m : Mx} {is : List Nat} (hN : X.N.Nodup) (hi : MI X W tg iter mi) (ok : BlkOk X.N X.env.scope scope own)
    (hg : ∀ (s : Shared) (H : Hp) (C : Addr) (cl : List (Str × Addr)) (fp : List Addr), MGc (X.blk s H scope (compEnvC scope cl C X.env) fp) tg is f)
    (ht : ∀ (s : Shared) (H : Hp) (C : Addr) (cl : List (Str × Addr)) (fp : List Addr), MTs (X.blk s H scope (compEnvC scope cl C X.env) fp) W0 ifs mt)
    (he : ∀ (s : Shared) (H : Hp) (C : Addr) (cl : List (Str × Addr)) (fp : List Addr), ME (X.blk s H scope (compEnvC scope cl C X.env) fp) W0 elt m)
    (his : ∀ i ∈ is, i ∈ own.map (·.2) := by decide) (hc : X.calm = true := by rfl) (hs : ∀ x, foldedSetIterable iter X.env x = pure x := by intro _; rfl) :
    ME X W (.ListComp elt [⟨tg, iter, ifs, 0⟩] scope pos) (mLc mi f mt m (own.map (·.2))) :=
  ⟨PE.weak (pe_lc hc hN hi.pi ok (fun s H C cl fp => (hg s H C cl fp).pg) (fun s H C cl fp => (ht s H C cl fp).pts) (fun s H C cl fp => (he s H C cl fp).pe) hs) fun σ H Q h => lc_of (fun v σ H Q h => h) his h⟩
theorem ms_setLc {i : Nat} {y : Str} {py spos : Pos} {elt tg iter : Expr} {ifs : List Expr} {scope : Scope} {own : List (Str × Nat)} {mi : Mi} {f : Ft} {mt : Mb} {m : Mx} {is : List Nat} (hN : X.N.Nodup) (hi : MI X W tg iter mi) (ok : BlkOk X.N X.env.scope scope own)
    (hg : ∀ (s : Shared) (H : Hp) (C : Addr) (cl : List (Str × Addr)) (fp : List Addr), MGc (X.blk s H scope (compEnvC scope cl C X.env) fp) tg is f)
    (ht : ∀ (s : Shared) (H : Hp) (C : Addr) (cl : List (Str × Addr)) (fp : List Addr), MTs (X.blk s H scope (compEnvC scope cl C X.env) fp) W0 ifs mt)
    (he : ∀ (s : Shared) (H : Hp) (C : Addr) (cl : List (Str × Addr)) (fp : List Addr), ME (X.blk s H scope (compEnvC scope cl C X.env) fp) W0 elt m)
    (hsw : swapsWith (.ListComp elt [⟨tg, iter, ifs, 0⟩] scope pos) (some (.Name y py)) spos.line X.env = pure true) (hy : X.N[i]? = some y := by rfl) (hyl : X.env.scope.names.lookup y = some .local := by rfl)
    (his : ∀ i ∈ is, i ∈ own.map (·.2) := by decide) (hc : X.calm = true := by rfl) (hs : ∀ x, foldedSetIterable iter X.env x = pure x := by intro _; rfl) :
    MS X W (.Assign [.Name y py] (.ListComp elt [⟨tg, iter, ifs, 0⟩] scope pos) spos) (sAsg i (mLc mi f mt m (own.map (·.2)))) :=
  ⟨PS.weak (ps_setLc (i := i) hc hN hy hyl hsw hi.pi ok (fun s H C cl fp => (hg s H C cl fp).pg) (fun s H C cl fp => (ht s H C cl fp).pts) (fun s H C cl fp => (he s H C cl fp).pe) hs) fun D σ H h => lc_of (fun v σ H Q h => h) his (asg_of h)⟩
end
end Eng

/-! The engine, part 6: the law's own end. -/
namespace Eng
open PySem PySem.Spec PyProof.Rows L2
variable [TabCfg]
section
variable {X : Cx} {W : WX} {pos : Pos}
theorem me_glI' {x : Str} {i : Int} (hg : Gl X x) (hm : ∃ t, X.mg x = some (.int i t)) (hdb : (x == ("__debug__" : Str)) = false := by decide) : ME X W (.Name x pos) (mC (.int i)) := let ⟨_, h⟩ := hm; me_glI hg h hdb
theorem me_glS' {x z : Str} (hg : Gl X x) (hm : ∃ t, X.mg x = some (.str z t)) (hdb : (x == ("__debug__" : Str)) = false := by decide) : ME X W (.Name x pos) (mC (.str z)) := let ⟨_, h⟩ := hm; me_glS hg h hdb
/-! ### n.bit_length() -/
def fBits : F1
  | .int i, S => some (.int (Builtin.Int.intBits i : Nat), S)
  | _, _ => none
theorem me_bits {o : Expr} {m : Mx} {apos : Pos} (ho : ME X W o m) (hbase : attributeBase o "bit_length" X.env (eval o X.env) = eval o X.env := by rfl) (hline : (apos.endLine == pos.line) = true := by rfl) : ME X W (.Call (.Attribute o "bit_length" apos) [] [] pos) (mUn fBits m) := by
  refine ⟨PE.weak (pe_bits ho.pe hbase hline) fun σ H Q ⟨β, S, ρ, rl, en, p⟩ => ⟨β, S, ρ, rl, en, p.bind.mono fun d β1 S1 H1 x1 r1 q v hv => ?_⟩⟩
  obtain ⟨z, S3, e3, k⟩ := q.ofO
  cases d with
  | int i => cases hv; cases e3; exact ⟨i, rfl, k β1 H1 .refl r1 _ (.int _)⟩
  | _ => cases e3
end
/-! ### the end -/
/-- what is asked of the law's own def -/
def spL (K : PySem.W.Frag) : Sp := fun vs H Q _ => ∃ (a : Addr) (ns : List Int), vs = [.ref a] ∧ ns.length ≤ 63 ∧ Only H ∧ SqL K H a (ns.map V.int) ∧ ∀ H', Q (.bl true) H'
theorem vds_ints {K : PySem.W.Frag} {mg : Str → Option Value} {β : List Addr} {H : Hp} : ∀ ns : List Int, Vds K mg β H (ns.map V.int) (ns.map D.int)
  | [] => .nil
  | n :: ns => .cons (.int n) (vds_ints ns)
theorem law_end (h0 : TabCfg.tabs = []) {P : Program} {w : World} {K : PySem.W.Frag} {mg : Str → Option Value} {base : Heap} {k : Nat} {f : Addr} {fd : FuncData} {ps : List Str} {m : List D → Sto → R D} (F : FnOk P w K mg base (L2.CX P w) k f fd ps (spM K mg 1 m))
    (h : ∀ ns : List Int, ns.length ≤ 63 → ∃ S, m [.ref 0] [.rdl (ns.map D.int)] = .ok (.bl true) S) : FnOk P w K mg base (L2.CX P w) k f fd ps (spL K) := by
  refine F.imp fun vs H Q E ⟨a, ns, e, hl, hO, hS, q⟩ => ?_
  subst e
  refine ⟨rfl, [a], [.rdl (ns.map D.int)], [.ref 0], ⟨rfl, fun n b o h1 h2 => ?_, fun n m b o u h1 h2 h3 h4 w1 w2 => ?_, fun p hp => by rw [h0] at hp; cases hp⟩, .cons (.ref rfl) .nil, ?_⟩
  · match n, h1, h2 with
    | 0, h1, h2 =>
      cases h1
      cases h2
      refine ⟨_, ?_, vds_ints ns⟩
      rcases hS with (h | h) | h
      · rcases hO a with z | ⟨u, xs, z⟩
        · rw [h] at z; cases z
        · rw [h] at z; cases z
      · exact .inl h
      · exact .inr h
    | n + 1, h1, h2 => simp at h1
  · match n, m, h1, h2 with
    | 0, 0, _, _ => rfl
    | n + 1, _, h1, _ => simp at h1
    | 0, m + 1, _, h2 => simp at h2
  · obtain ⟨S, e⟩ := h ns hl
    rw [e]
    intro β' H' v _ _ hv
    cases hv
    exact q H'
theorem walk_eng {l : PySem.W.OpenLaw} {k : Nat} {q : Program} {loose : List Str} {XP : (Str → Option Value) → Heap → Prop} {YP : World → Heap → Prop} {d : DefRec} {K : Params → PySem.W.Frag} {x : Str}
    (hn : l.most = some 63) (hdf : d.params.defaults = []) (hr : Room k callerA) (hY : ∀ (w : World) (h : Heap), YP w h → (K w.params).In h)
    (F : ∀ (w : World) (mg : Str → Option Value) (fa : Addr) (h : Heap), (K w.params).In h → h.Ns mainGlobals mg → mg d.name = some (.ref fa) →
      ∃ fd : FuncData, (∀ (s : Shared) (u : Value), BindsTo s fd ⟨[u], []⟩ [(x, u)]) ∧ ∀ base : Heap, FnOk l.prog w (K w.params) mg base (L2.CX l.prog w) k fa fd [x] (spL (K w.params))) :
    PySem.W.WalkO q loose XP YP l.row.toRowW d [] (fun f vs => PySem.call f vs) :=
  L2.walk_of (n := 63) (k := k) (x := x) (CX := fun w => L2.CX l.prog w) (sp := fun w => spL (K w.params)) hn (by decide) hdf hr hY (fun w mg fa h a b c => let ⟨fd, h1, h2⟩ := F w mg fa h a b c; ⟨fd, h1, fun base _ _ => h2 base⟩)
    (fun _ H a ns hl hO hS => ⟨a, ns, rfl, hl, hO, hS, fun _ => rfl⟩) fun w H s e s' h => by
      obtain ⟨_, _, _, _, _, _, _, _, _, _, _, _, z⟩ := h
      exact z
end Eng

/-! The engine, part 7: rows for simp: the mirrors run by rewriting. -/
namespace Eng
/-- an equation by unfolding, kept as a step of its own -/
theorem nr {α : Sort u} {a b : α} (h : a = b) : a = b := by cases h; exact Eq.trans rfl (Eq.refl _)
open PySem PySem.Spec PyProof.Rows L2
section
variable {α γ : Type} {ρ : Env'} {S S' : Sto} {m ma mb mc : Mx} {ta tb : Mb} {a b : Ms} {f g : F2} {f1 : F1} {x y d : D} {i j : Int} {k n : Nat}
@[simp] theorem R.bind_ok (a : α) (f : α → Sto → R γ) : (R.ok a S).bind f = f a S := nr rfl
@[simp] theorem R.bind_ex (e : Exn) (f : α → Sto → R γ) : (R.ex e S).bind f = .ex e S := nr rfl
@[simp] theorem R.bind_stuck (f : α → Sto → R γ) : (R.stuck : R α).bind f = .stuck := nr rfl
@[simp] theorem R.st_ok (a : α) (f : α → Sto → RS) : (R.ok a S).st ρ f = f a S := nr rfl
@[simp] theorem R.st_ex (e : Exn) (f : α → Sto → RS) : (R.ex e S : R α).st ρ f = .ex e ρ S := nr rfl
@[simp] theorem R.st_stuck (f : α → Sto → RS) : (R.stuck : R α).st ρ f = .stuck := nr rfl
@[simp] theorem R.ofO_some (p : D × Sto) : R.ofO (some p) = .ok p.1 p.2 := nr rfl
@[simp] theorem R.ofO_none : R.ofO none = .stuck := nr rfl
@[simp] theorem ev_var : mVar k ρ S = getV ρ k S := nr rfl
@[simp] theorem getV_zero {r : Env'} : getV (some d :: r) 0 S = .ok d S := nr rfl
@[simp] theorem getV_succ {o : Option D} {r : Env'} : getV (o :: r) (k + 1) S = getV r k S := nr rfl
@[simp] theorem ev_c : mC d ρ S = .ok d S := nr rfl
@[simp] theorem ev_un : mUn f1 m ρ S = (m ρ S).bind fun x S1 => R.ofO (f1 x S1) := nr rfl
@[simp] theorem ev_bin : mBin f ma mb ρ S = (ma ρ S).bind fun x S1 => (mb ρ S1).bind fun y S2 => R.ofO (f x y S2) := nr rfl
@[simp] theorem asB_bl (b : Bool) : asB (.ok (.bl b) S) = .ok b S := nr rfl
@[simp] theorem asB_ex (e : Exn) : asB (.ex e S) = .ex e S := nr rfl
@[simp] theorem ev_TB : mTB m ρ S = asB (m ρ S) := nr rfl
@[simp] theorem ev_tru : mTru m ρ S = (m ρ S).bind fun d S1 => match truD d S1 with
  | some b => .ok b S1
  | none => .stuck := nr rfl
@[simp] theorem truD_non : truD .non S = some false := nr rfl
@[simp] theorem truD_bl (b : Bool) : truD (.bl b) S = some b := nr rfl
@[simp] theorem truD_int : truD (.int i) S = some (i != 0) := nr rfl
@[simp] theorem truD_tup (xs : List D) : truD (.tup xs) S = some (!xs.isEmpty) := nr rfl
@[simp] theorem ev_and : mAnd ta tb ρ S = (ta ρ S).bind fun c S1 => if c = true then tb ρ S1 else .ok false S1 := nr rfl
@[simp] theorem ev_or : mOr ta tb ρ S = (ta ρ S).bind fun c S1 => if c = true then .ok true S1 else tb ρ S1 := nr rfl
@[simp] theorem ev_not : mNot ta ρ S = (ta ρ S).bind fun c S1 => .ok (!c) S1 := nr rfl
@[simp] theorem ev_if : mIf ta ma mb ρ S = (ta ρ S).bind fun c S1 => if c = true then ma ρ S1 else mb ρ S1 := nr rfl
@[simp] theorem ev_andV : mAndV ma mb ρ S = (ma ρ S).bind fun d S1 => match truD d S1 with
  | some true => mb ρ S1
  | some false => .ok d S1
  | none => .stuck := nr rfl
@[simp] theorem ev_orV : mOrV ma mb ρ S = (ma ρ S).bind fun d S1 => match truD d S1 with
  | some true => .ok d S1
  | some false => mb ρ S1
  | none => .stuck := nr rfl
@[simp] theorem ev_notV : mNotV ma ρ S = (ma ρ S).bind fun d S1 => match truD d S1 with
  | some b => .ok (.bl (!b)) S1
  | none => .stuck := nr rfl
@[simp] theorem ev_chain : mChain f g ma mb mc ρ S = (ma ρ S).bind fun x S1 => (mb ρ S1).bind fun y S2 => (asB (R.ofO (f x y S2))).bind fun k S3 => if k = true then (mc ρ S3).bind fun z S4 => R.ofO (g y z S4) else .ok (.bl false) S3 := nr rfl
@[simp] theorem ev_nil : mNil ρ S = .ok [] S := nr rfl
@[simp] theorem ev_cons {mr : Ma} : mCons m mr ρ S = (m ρ S).bind fun d S1 => (mr ρ S1).bind fun ds S2 => .ok (d :: ds) S2 := nr rfl
theorem le_line {n : Nat} (h : n ≤ 1000000) : n ≤ sizeLine := by rw [sizeLine_eq]; omega
theorem lt_line {n : Nat} (h : n < 1000000) : n < sizeLine := by rw [sizeLine_eq]; omega
@[simp] theorem ev_tup {mr : Ma} : mTup mr ρ S = (mr ρ S).bind fun ds S1 => if ds.length ≤ 16777216 then .ok (.tup ds) S1 else .stuck := by
  unfold mTup
  rw [sizeLine_eq]
@[simp] theorem ev_lst {mr : Ma} : mLst mr ρ S = (mr ρ S).bind fun ds S1 => newL ds S1 := nr rfl
@[simp] theorem ev_newL {ds : List D} : newL ds S = if ds.length ≤ 16777216 then .ok (.ref S.length) (S ++ [.lst ds]) else .stuck := by
  unfold newL
  rw [sizeLine_eq]
@[simp] theorem ev_call {h : List D → Sto → R D} {mr : Ma} : mCall h mr ρ S = (mr ρ S).bind h := nr rfl
@[simp] theorem ev_CB {h : FA} {mr : Ma} : mCB h mr ρ S = (mr ρ S).bind fun ds S1 => R.ofO (h ds S1) := nr rfl
@[simp] theorem ev_BM {ck : D → Sto → Bool} {h : FM} {mr : Ma} : mBM ck h m mr ρ S = (m ρ S).bind fun o S1 => if ck o S1 = true then (mr ρ S1).bind fun ds S2 => R.ofO (h o ds S2) else .stuck := nr rfl
@[simp] theorem ev_O0 : mO0 ρ S = .ok none S := nr rfl
@[simp] theorem ev_O1 : mO1 m ρ S = (m ρ S).bind fun d S1 => match d with
  | .int i => .ok (some i) S1
  | _ => .stuck := nr rfl
@[simp] theorem ev_sl {ml mh : Mo} : mSl m ml mh ρ S = (m ρ S).bind fun d S1 => (ml ρ S1).bind fun lo S2 => (mh ρ S2).bind fun hi S3 => slD d lo hi S3 := nr rfl
/-! statements -/
@[simp] theorem ev_skip : sSkip ρ S = .fl (.nx ρ) S := nr rfl
@[simp] theorem ev_seq : sSeq a b ρ S = match a ρ S with
  | .fl (.nx ρ') S' => b ρ' S'
  | r => r := nr rfl
@[simp] theorem ev_expr : sExpr m ρ S = (m ρ S).st ρ fun _ S1 => .fl (.nx ρ) S1 := nr rfl
@[simp] theorem ev_ret : sRet m ρ S = (m ρ S).st ρ fun d S1 => .fl (.rt d) S1 := nr rfl
@[simp] theorem ev_retN : sRetN ρ S = .fl (.rt .non) S := nr rfl
@[simp] theorem ev_sif : sIf ta a b ρ S = (ta ρ S).st ρ fun k S1 => if k = true then a ρ S1 else b ρ S1 := nr rfl
@[simp] theorem ev_asg : sAsg k m ρ S = (m ρ S).st ρ fun d S1 => .fl (.nx (ρ.set k (some d))) S1 := nr rfl
@[simp] theorem ev_asgT {f : Ft} : sAsgT m f ρ S = (m ρ S).st ρ fun d S1 => match f d ρ with
  | some ρ' => .fl (.nx ρ') S1
  | none => .stuck := nr rfl
@[simp] theorem ev_aug : sAug k f m ρ S = match ρ[k]? with
  | some (some x) => (m ρ S).st ρ fun y S1 => match f x y S1 with
    | some (d, S2) => .fl (.nx (ρ.set k (some d))) S2
    | none => .stuck
  | _ => .stuck := nr rfl
@[simp] theorem ev_for {mi : Mi} {f : Ft} : sFor mi f b ρ S = (mi ρ S).st ρ fun it S1 => forF it f b it.cnt 0 ρ S1 := nr rfl
@[simp] theorem fName_ev : fName k d ρ = some (ρ.set k (some d)) := nr rfl
@[simp] theorem fNames_ev {is : List Nat} {ds : List D} : fNames is (.tup ds) ρ = if ds.length = is.length then some (setAll is ds ρ) else none := nr rfl
@[simp] theorem setAll_cons {i : Nat} {is : List Nat} {ds : List D} : setAll (i :: is) (d :: ds) ρ = setAll is ds (ρ.set i (some d)) := nr rfl
@[simp] theorem setAll_nil {ds : List D} : setAll [] ds ρ = ρ := by cases ds <;> rfl
@[simp] theorem ev_def {c : Nat} {b : Ms} {ds : List D} : mDef c b ds S = match b (ds.map some ++ List.replicate (c - ds.length) none) S with
  | .fl (.nx _) S' => .ok .non S'
  | .fl (.rt d) S' => .ok d S'
  | .ex x _ S' => .ex x S'
  | .stuck => .stuck := nr rfl
/-! operators -/
@[simp] theorem fI_int {C : Int → Int → Bool} {h : Int → Int → D} : fI C h (.int i) (.int j) S = if C i j = true then some (h i j, S) else none := nr rfl
@[simp] theorem cT_ev : cT i j = true := nr rfl
@[simp] theorem cdec_eq {p : Prop} [h : Decidable p] : cdec p = decide p := by
  unfold cdec
  congr
@[simp] theorem cPos_ev : cPos i j = cdec (0 < j) := nr rfl
@[simp] theorem cDiv_ev : cDiv i j = (cdec (0 < j) && cdec (j < 10000000000000000000000000000000000000000000000000000000000000000000000000000000000000000000000000000)) := nr rfl
@[simp] theorem cPow_ev : cPow i j = cdec (0 ≤ j ∧ j ≤ 1000000 ∧ i.natAbs < 2 ^ 64) := nr rfl
@[simp] theorem cShr_ev : cShr i j = cdec (0 ≤ j) := nr rfl
theorem in64_of (h : -18446744073709551616 < i ∧ i < 18446744073709551616) : in64 i = true := by
  exact cdec_is h
theorem cMul1_l (h : -18446744073709551616 < i ∧ i < 18446744073709551616) : cMul1 i j = true := by
  unfold cMul1
  rw [in64_of h]
  rfl
theorem cMul1_r (h : -18446744073709551616 < j ∧ j < 18446744073709551616) : cMul1 i j = true := by
  unfold cMul1
  rw [in64_of h, Bool.or_true]
  rfl
theorem bits_of (h : 0 < i) : Builtin.Int.intBits i = i.natAbs.log2 + 1 := by
  have h0 : (i == 0) = false := by
    rw [beq_eq_false_iff_ne]
    omega
  simp [Builtin.Int.intBits, h0]
theorem bits_le (h : i.natAbs < 2 ^ n) : Builtin.Int.intBits i ≤ n := by
  unfold Builtin.Int.intBits
  split
  · exact Nat.zero_le _
  · rename_i h0
    have h1 : i.natAbs ≠ 0 := by
      intro e
      apply h0
      rw [beq_iff_eq]
      omega
    exact (Nat.log2_lt h1).mpr h
theorem cShl_of (h0 : 0 ≤ j) (h : i.natAbs < 2 ^ n) (hn : (n : Int) + j ≤ 134217728) : cShl i j = true := by
  have := bits_le h
  have e : (2 : Int) ^ 27 = 134217728 := by decide
  refine cdec_is ⟨h0, ?_⟩
  rw [e]
  omega
/-- 1 << j -/
@[simp] theorem cShl_one : cShl 1 j = cdec (0 ≤ j ∧ j ≤ 134217727) := by
  have e : (2 : Int) ^ 27 = 134217728 := by decide
  unfold cShl
  rw [e, show Builtin.Int.intBits 1 = 1 from by decide]
  congr 1
  refine propext ⟨fun h => ⟨h.1, by omega⟩, fun h => ⟨h.1, by omega⟩⟩
@[simp] theorem fSub_ev : fSub (.int i) (.int j) S = some (.int (i - j), S) := nr rfl
@[simp] theorem fDiv_ev : fDiv (.int i) (.int j) S = if cDiv i j = true then some (.int (i / j), S) else none := nr rfl
@[simp] theorem fMod_ev : fMod (.int i) (.int j) S = if 0 < j then some (.int (i % j), S) else none := by
  show (if cPos i j = true then _ else _) = _
  simp
@[simp] theorem fPow_ev : fPow (.int i) (.int j) S = if cPow i j = true then some (.int (i ^ j.toNat), S) else none := nr rfl
@[simp] theorem fShl_ev : fShl (.int i) (.int j) S = if cShl i j = true then some (.int (i * 2 ^ j.toNat), S) else none := nr rfl
@[simp] theorem fShr_ev : fShr (.int i) (.int j) S = if 0 ≤ j then some (.int (i / 2 ^ j.toNat), S) else none := by
  show (if cShr i j = true then _ else _) = _
  simp
@[simp] theorem fAnd_ev : fAnd (.int i) (.int j) S = some (.int (Builtin.bitAnd i j), S) := nr rfl
@[simp] theorem fXor_ev : fXor (.int i) (.int j) S = some (.int (Builtin.bitXor i j), S) := nr rfl
@[simp] theorem fMul_ev : fMul (.int i) (.int j) S = if cMul1 i j = true then some (.int (i * j), S) else none := nr rfl
@[simp] theorem fNeg_ev : fNeg (.int i) S = some (.int (-i), S) := nr rfl
@[simp] theorem fBits_ev : fBits (.int i) S = some (.int (Builtin.Int.intBits i : Nat), S) := nr rfl
@[simp] theorem fAdd_int : fAdd (.int i) (.int j) S = some (.int (i + j), S) := nr rfl
@[simp] theorem fAdd_str {a b : Str} : fAdd (.str a) (.str b) S = if a.length + b.length ≤ 16777216 then some (.str (a ++ b), S) else none := by
  unfold fAdd
  rw [sizeLine_eq]
@[simp] theorem fAdd_tup {xs ys : List D} : fAdd (.tup xs) (.tup ys) S = if xs.length + ys.length ≤ 16777216 then some (.tup (xs ++ ys), S) else none := by
  unfold fAdd
  rw [sizeLine_eq]
@[simp] theorem fAdd_ref : fAdd (.ref k) (.ref n) S = match S[k]?, S[n]? with
    | some (.lst xs), some (.lst ys) => if xs.length + ys.length ≤ 16777216 then some (.ref S.length, S ++ [.lst (xs ++ ys)]) else none
    | _, _ => none := by
  unfold fAdd
  rw [sizeLine_eq] <;> rfl
@[simp] theorem fLt_ev : fLt (.int i) (.int j) S = some (.bl (decide (i < j)), S) := nr rfl
@[simp] theorem fLe_ev : fLe (.int i) (.int j) S = some (.bl (decide (i ≤ j)), S) := nr rfl
@[simp] theorem fGt_ev : fGt (.int i) (.int j) S = some (.bl (decide (j < i)), S) := nr rfl
@[simp] theorem fGe_ev : fGe (.int i) (.int j) S = some (.bl (decide (j ≤ i)), S) := nr rfl
@[simp] theorem fIs_non : fIs x .non S = some (.bl (isNon x), S) := by cases x <;> rfl
@[simp] theorem fIs_bl {a b : Bool} : fIs (.bl a) (.bl b) S = some (.bl (decide (a = b)), S) := nr rfl
@[simp] theorem fIsN_non : fIsN x .non S = some (.bl (!isNon x), S) := by cases x <;> rfl
@[simp] theorem fIsN_bl {a b : Bool} : fIsN (.bl a) (.bl b) S = some (.bl (!decide (a = b)), S) := nr rfl
@[simp] theorem isNon_non : isNon .non = true := nr rfl
@[simp] theorem isNon_int : isNon (.int i) = false := nr rfl
@[simp] theorem isNon_str {s : Str} : isNon (.str s) = false := nr rfl
@[simp] theorem isNon_tup {xs : List D} : isNon (.tup xs) = false := nr rfl
@[simp] theorem isNon_ref : isNon (.ref k) = false := nr rfl
@[simp] theorem fEq_ev : fEq x y S = (eqD S x y).map fun b => (.bl b, S) := nr rfl
@[simp] theorem fNe_ev : fNe x y S = (eqD S x y).map fun b => (.bl (!b), S) := nr rfl
@[simp] theorem eqD_int : eqD S (.int i) (.int j) = some (decide (i = j)) := nr rfl
@[simp] theorem eqD_str {a b : Str} : eqD S (.str a) (.str b) = some (decide (a = b)) := nr rfl
@[simp] theorem eqD_bl {a b : Bool} : eqD S (.bl a) (.bl b) = some (decide (a = b)) := nr rfl
@[simp] theorem fIx_tup {xs : List D} : fIx (.tup xs) (.int i) S = (atI xs i).map fun d => (d, S) := nr rfl
@[simp] theorem fIx_ref : fIx (.ref n) (.int i) S = match lstAt S n with
    | some xs => (atI xs i).map fun d => (d, S)
    | none => none := nr rfl
@[simp] theorem fIx_str {z : Str} : fIx (.str z) (.int i) S = if z.length ≤ 16777216 then (atI z.cps.toList i).map fun c => (.str ⟨#[c]⟩, S) else none := by
  unfold fIx
  rw [sizeLine_eq]
@[simp] theorem slD_tup {xs : List D} {lo hi : Option Int} : slD (.tup xs) lo hi S = .ok (.tup (cutD xs lo hi)) S := nr rfl
@[simp] theorem slD_ref {lo hi : Option Int} : slD (.ref n) lo hi S = match lstAt S n with
    | some xs => .ok (.ref S.length) (S ++ [.lst (cutD xs lo hi)])
    | none => .stuck := nr rfl
@[simp] theorem slD_str {z : Str} {lo hi : Option Int} : slD (.str z) lo hi S = if z.length ≤ 16777216 then .ok (.str (cutS z lo hi)) S else .stuck := by
  unfold slD
  rw [sizeLine_eq]
@[simp] theorem fLen_tup {xs : List D} : fLen [.tup xs] S = some (.int xs.length, S) := nr rfl
@[simp] theorem fLen_str {z : Str} : fLen [.str z] S = if z.length ≤ 16777216 then some (.int z.length, S) else none := by
  unfold fLen
  rw [sizeLine_eq]
@[simp] theorem fLen_ref : fLen [.ref n] S = match lstAt S n with
    | some ds => some (.int ds.length, S)
    | none => match S[n]? with
      | some (.dk kvs) => some (.int kvs.length, S)
      | some (.dt kvs) => some (.int kvs.length, S)
      | _ => none := nr rfl
@[simp] theorem fIsi_ev {n : String} : fIsi [x, .ty n] S = match tyD S x with
    | some t => (kitB t n).map fun b => (.bl b, S)
    | none => none := nr rfl
@[simp] theorem tyD_non : tyD S .non = some "NoneType" := nr rfl
@[simp] theorem tyD_bl {b : Bool} : tyD S (.bl b) = some "bool" := nr rfl
@[simp] theorem tyD_int : tyD S (.int i) = some "int" := nr rfl
@[simp] theorem tyD_str {z : Str} : tyD S (.str z) = some "str" := nr rfl
@[simp] theorem tyD_tup {xs : List D} : tyD S (.tup xs) = some "tuple" := nr rfl
@[simp] theorem tyD_ref : tyD S (.ref n) = match S[n]? with
    | some (.lst _) => some "list"
    | some (.rdl _) => some "list"
    | some (.dk _) => some "dict"
    | some (.dt _) => some "dict"
    | _ => none := nr rfl
@[simp] theorem fStr_ev : fStr [.int i] S = if i.natAbs.log2 < 1920 then some (.str (toString i), S) else none := nr rfl
@[simp] theorem fInt_int : fInt [.int i] S = some (.int i, S) := nr rfl
@[simp] theorem fInt_bl {b : Bool} : fInt [.bl b] S = some (.int (if b then 1 else 0), S) := nr rfl
@[simp] theorem fMax_ev : fMax [.int i, .int j] S = some (.int (if j > i then j else i), S) := nr rfl
@[simp] theorem fMin_ev : fMin [.int i, .int j] S = some (.int (if j < i then j else i), S) := nr rfl
@[simp] theorem fAbs_ev : fAbs [.int i] S = some (.int (if i < 0 then -i else i), S) := nr rfl
@[simp] theorem fList_ev : fList [d] S = (seqD S d).map fun ds => (.ref S.length, S ++ [.lst ds]) := nr rfl
@[simp] theorem fTuple_ev : fTuple [d] S = (seqD S d).map fun ds => (.tup ds, S) := nr rfl
@[simp] theorem seqD_tup {xs : List D} : seqD S (.tup xs) = some xs := nr rfl
@[simp] theorem seqD_ref : seqD S (.ref n) = lstAt S n := nr rfl
@[simp] theorem ckL_ev : ckL (.ref n) S = (lstAt S n).isSome := nr rfl
@[simp] theorem fAppend_ev : fAppend (.ref n) [d] S = match S[n]? with
    | some (.lst xs) => if xs.length < 16777216 then some (.non, S.set n (.lst (xs ++ [d]))) else none
    | _ => none := by
  unfold fAppend
  rw [sizeLine_eq] <;> rfl
@[simp] theorem ev_it : mIt m ρ S = (m ρ S).bind fun d S1 => match d with
  | .ref n => match lstAt S1 n with
    | some xs => .ok (itL n xs.length) S1
    | none => .stuck
  | .tup ds => .ok (itT ds) S1
  | .str z => .ok (itS z) S1
  | _ => .stuck := nr rfl
@[simp] theorem ev_range1 : mRange1 m ρ S = (m ρ S).bind rg1 := nr rfl
@[simp] theorem rg1_ev : rg1 (.int i) S = if small62 i = true then .ok (itR 0 i.toNat) S else .stuck := nr rfl
@[simp] theorem ev_range2 : mRange2 ma mb ρ S = (ma ρ S).bind fun x S1 => (mb ρ S1).bind fun y S2 => rg2 x y S2 := nr rfl
@[simp] theorem rg2_ev : rg2 (.int i) (.int j) S = if (small62 i && small62 j) = true then .ok (itR i (j - i).toNat) S else .stuck := nr rfl
theorem small62_is (h : -4611686018427387904 ≤ i ∧ i < 4611686018427387904) : small62 i = true := by
  exact cdec_is h
/-! kitB of the built-in types that the texts ask for -/
@[simp] theorem k_int_int : kitB "int" "int" = some true := by decide +kernel
@[simp] theorem k_bool_int : kitB "bool" "int" = some true := by decide +kernel
@[simp] theorem k_str_int : kitB "str" "int" = some false := by decide +kernel
@[simp] theorem k_tup_int : kitB "tuple" "int" = some false := by decide +kernel
@[simp] theorem k_list_int : kitB "list" "int" = some false := by decide +kernel
@[simp] theorem k_dict_int : kitB "dict" "int" = some false := by decide +kernel
@[simp] theorem k_non_int : kitB "NoneType" "int" = some false := by decide +kernel
@[simp] theorem k_int_bool : kitB "int" "bool" = some false := by decide +kernel
@[simp] theorem k_bool_bool : kitB "bool" "bool" = some true := by decide +kernel
@[simp] theorem k_str_bool : kitB "str" "bool" = some false := by decide +kernel
@[simp] theorem k_tup_bool : kitB "tuple" "bool" = some false := by decide +kernel
@[simp] theorem k_list_bool : kitB "list" "bool" = some false := by decide +kernel
@[simp] theorem k_dict_bool : kitB "dict" "bool" = some false := by decide +kernel
@[simp] theorem k_non_bool : kitB "NoneType" "bool" = some false := by decide +kernel
@[simp] theorem k_int_str : kitB "int" "str" = some false := by decide +kernel
@[simp] theorem k_bool_str : kitB "bool" "str" = some false := by decide +kernel
@[simp] theorem k_str_str : kitB "str" "str" = some true := by decide +kernel
@[simp] theorem k_tup_str : kitB "tuple" "str" = some false := by decide +kernel
@[simp] theorem k_list_str : kitB "list" "str" = some false := by decide +kernel
@[simp] theorem k_dict_str : kitB "dict" "str" = some false := by decide +kernel
@[simp] theorem k_non_str : kitB "NoneType" "str" = some false := by decide +kernel
@[simp] theorem k_int_tup : kitB "int" "tuple" = some false := by decide +kernel
@[simp] theorem k_bool_tup : kitB "bool" "tuple" = some false := by decide +kernel
@[simp] theorem k_str_tup : kitB "str" "tuple" = some false := by decide +kernel
@[simp] theorem k_tup_tup : kitB "tuple" "tuple" = some true := by decide +kernel
@[simp] theorem k_list_tup : kitB "list" "tuple" = some false := by decide +kernel
@[simp] theorem k_dict_tup : kitB "dict" "tuple" = some false := by decide +kernel
@[simp] theorem k_non_tup : kitB "NoneType" "tuple" = some false := by decide +kernel
@[simp] theorem k_list_list : kitB "list" "list" = some true := by decide +kernel
@[simp] theorem k_int_list : kitB "int" "list" = some false := by decide +kernel
@[simp] theorem k_str_list : kitB "str" "list" = some false := by decide +kernel
@[simp] theorem k_tup_list : kitB "tuple" "list" = some false := by decide +kernel
@[simp] theorem k_non_list : kitB "NoneType" "list" = some false := by decide +kernel
/-! the store -/
@[simp] theorem app_at0 {l : Sto} : (S ++ l)[S.length]? = l[0]? := by
  rw [List.getElem?_append_right (Nat.le_refl _), Nat.sub_self]
@[simp] theorem app_at {l : Sto} : (S ++ l)[S.length + k]? = l[k]? := by
  rw [List.getElem?_append_right (by omega)]
  congr 1
  omega
@[simp] theorem app_set0 {l : Sto} {o : Ob} : (S ++ l).set S.length o = S ++ l.set 0 o := by
  rw [List.set_append_right _ _ (Nat.le_refl _), Nat.sub_self]
@[simp] theorem app_set {l : Sto} {o : Ob} : (S ++ l).set (S.length + k) o = S ++ l.set k o := by
  rw [List.set_append_right _ _ (by omega)]
  congr 2
  omega
@[simp] theorem lstAt_app0 {l : Sto} : lstAt (S ++ l) S.length = lstAt l 0 := by
  unfold lstAt
  rw [app_at0]
@[simp] theorem lstAt_app {l : Sto} : lstAt (S ++ l) (S.length + k) = lstAt l k := by
  unfold lstAt
  rw [app_at]
@[simp] theorem lstAt_z {o : Ob} {l : Sto} : lstAt (o :: l) 0 = match o with
  | .lst xs => some xs
  | .rdl xs => some xs
  | _ => none := by cases o <;> rfl
@[simp] theorem lstAt_s {o : Ob} {l : Sto} : lstAt (o :: l) (k + 1) = lstAt l k := nr rfl
theorem lstAt_more {l : Sto} {xs : List D} (h : lstAt S n = some xs) : lstAt (S ++ l) n = some xs := by
  unfold lstAt at h ⊢
  cases q : S[n]? with
  | none => rw [q] at h; cases h
  | some o =>
    rw [q] at h
    rw [List.getElem?_append_left (List.getElem?_eq_some_iff.mp q).1, q]
    exact h
theorem at_more {l : Sto} {o : Ob} (h : S[n]? = some o) : (S ++ l)[n]? = some o := by
  rw [List.getElem?_append_left (List.getElem?_eq_some_iff.mp h).1]
  exact h
theorem atI_at {α : Type} {xs : List α} {i : Int} (h0 : 0 ≤ i) (h1 : i < xs.length) : atI xs i = xs[i.toNat]? := by
  unfold atI ixN
  rw [if_pos h0, if_pos h1]
  rfl
end
/-! lists of whole numbers, compared -/
theorem toPys_ints {S : Sto} {n : Nat} : ∀ xs : List Int, toPys S n (xs.map D.int) = some (xs.map PyData.int)
  | [] => by unfold toPys; rfl
  | x :: xs => by
    rw [List.map_cons, toPys, toPys_ints xs, toPy]
    rfl
theorem eqvAll_ints : ∀ xs ys : List Int, PyData.eqvAll (xs.map PyData.int) (ys.map PyData.int) = decide (xs = ys)
  | [], [] => by simp [PyData.eqvAll]
  | [], y :: ys => by simp [PyData.eqvAll]
  | x :: xs, [] => by simp [PyData.eqvAll]
  | x :: xs, y :: ys => by
    rw [List.map_cons, List.map_cons, PyData.eqvAll, eqvAll_ints xs ys, PyData.eqv]
    rw [Bool.eq_iff_iff]
    simp
theorem canLay_ints : ∀ xs : List Int, PyData.canLayAll0 (xs.map PyData.int) = true
  | [] => by simp [PyData.canLayAll0]
  | x :: xs => by
    rw [List.map_cons, PyData.canLayAll0, canLay_ints xs, PyData.canLay0]
    rfl
theorem depth_ints : ∀ xs : List Int, PyData.depthAll (xs.map PyData.int) = 0
  | [] => by simp [PyData.depthAll]
  | x :: xs => by
    rw [List.map_cons, PyData.depthAll, depth_ints xs, PyData.depth]
    rfl
theorem shaped_ints (xs : List Int) : SeqAt.shaped (.list (xs.map PyData.int)) = true := by
  unfold SeqAt.shaped
  rw [PyData.canLay0, canLay_ints, PyData.depth, depth_ints]
  rfl
theorem eqD_ints {S : Sto} {a b : Nat} {xs ys : List Int} (h1 : lstAt S a = some (xs.map D.int)) (h2 : lstAt S b = some (ys.map D.int)) : eqD S (.ref a) (.ref b) = some (decide (xs = ys)) := by
  show deepEq S _ _ = _
  unfold deepEq
  rw [toPy, toPy, h1, h2]
  dsimp only
  rw [toPys_ints, toPys_ints]
  dsimp only [Option.map]
  rw [shaped_ints, shaped_ints]
  simp only [Bool.and_self, if_true]
  rw [PyData.eqv, eqvAll_ints]
/-! from a block's run -/
theorem def_rt {c : Nat} {b : Ms} {ds : List D} {S S' : Sto} {d : D} {ρ0 : Env'} (h : b ρ0 S = .fl (.rt d) S') (h0 : ds.map some ++ List.replicate (c - ds.length) none = ρ0 := by rfl) : mDef c b ds S = .ok d S' := by
  unfold mDef
  rw [h0, h]
theorem def_nx {c : Nat} {b : Ms} {ds : List D} {S S' : Sto} {ρ' ρ0 : Env'} (h : b ρ0 S = .fl (.nx ρ') S') (h0 : ds.map some ++ List.replicate (c - ds.length) none = ρ0 := by rfl) : mDef c b ds S = .ok .non S' := by
  unfold mDef
  rw [h0, h]
theorem def_ex {c : Nat} {b : Ms} {ds : List D} {S S' : Sto} {x : Exn} {ρ' ρ0 : Env'} (h : b ρ0 S = .ex x ρ' S') (h0 : ds.map some ++ List.replicate (c - ds.length) none = ρ0 := by rfl) : mDef c b ds S = .ex x S' := by
  unfold mDef
  rw [h0, h]
theorem seq_nx {a b : Ms} {ρ ρ' : Env'} {S S' : Sto} {r : RS} (h : a ρ S = .fl (.nx ρ') S') (h2 : b ρ' S' = r) : sSeq a b ρ S = r := by
  unfold sSeq
  rw [h]
  exact h2
theorem seq_rt {a b : Ms} {ρ : Env'} {S S' : Sto} {d : D} (h : a ρ S = .fl (.rt d) S') : sSeq a b ρ S = .fl (.rt d) S' := by
  unfold sSeq
  rw [h]
theorem seq_ex {a b : Ms} {ρ ρ' : Env'} {S S' : Sto} {x : Exn} (h : a ρ S = .ex x ρ' S') : sSeq a b ρ S = .ex x ρ' S' := by
  unfold sSeq
  rw [h]
theorem for_of {mi : Mi} {f : Ft} {b : Ms} {it : ItD} {ρ : Env'} {S S1 : Sto} {r : RS} (h : mi ρ S = .ok it S1) (h2 : forF it f b it.cnt 0 ρ S1 = r) : sFor mi f b ρ S = r := by
  unfold sFor
  rw [h]
  exact h2
theorem asg_of' {m : Mx} {ρ : Env'} {S S1 : Sto} {d : D} {k : Nat} (h : m ρ S = .ok d S1) : sAsg k m ρ S = .fl (.nx (ρ.set k (some d))) S1 := by
  unfold sAsg
  rw [h]
  rfl
theorem ret_of {m : Mx} {ρ : Env'} {S S1 : Sto} {d : D} (h : m ρ S = .ok d S1) : sRet m ρ S = .fl (.rt d) S1 := by
  unfold sRet
  rw [h]
  rfl
theorem if_t {c : Mb} {a b : Ms} {ρ : Env'} {S S1 : Sto} {r : RS} (h : c ρ S = .ok true S1) (h2 : a ρ S1 = r) : sIf c a b ρ S = r := by
  unfold sIf
  rw [h]
  exact h2
theorem if_f {c : Mb} {a b : Ms} {ρ : Env'} {S S1 : Sto} {r : RS} (h : c ρ S = .ok false S1) (h2 : b ρ S1 = r) : sIf c a b ρ S = r := by
  unfold sIf
  rw [h]
  exact h2
/-! loops -/
theorem forF_nil {it : ItD} {f : Ft} {b : Ms} {i : Nat} {ρ : Env'} {S : Sto} (h : it.fin S = true) : forF it f b 0 i ρ S = .fl (.nx ρ) S := by
  unfold forF
  rw [if_pos h]
theorem forF_cons {it : ItD} {f : Ft} {b : Ms} {n i : Nat} {ρ ρ1 : Env'} {S : Sto} {d : D} (h : it.nx i S = some d) (h1 : f d ρ = some ρ1) : forF it f b (n + 1) i ρ S = (match b ρ1 S with
        | .fl (.nx ρ2) S2 => forF it f b n (i + 1) ρ2 S2
        | r => r) := by
  rw [forF, h]
  dsimp only
  rw [h1] <;> rfl
/-- for over range: an invariant of the turns -/
theorem forR_inv {lo : Int} {f : Ft} {b : Ms} (P : Nat → Env' → Sto → Prop) (c : Nat)
    (step : ∀ i ρ S, i < c → P i ρ S → ∃ ρ1, f (.int (lo + i)) ρ = some ρ1 ∧ ∃ ρ2 S2, b ρ1 S = .fl (.nx ρ2) S2 ∧ P (i + 1) ρ2 S2) :
    ∀ n i ρ S, i + n = c → P i ρ S → ∃ ρ' S', forF (itR lo c) f b n i ρ S = .fl (.nx ρ') S' ∧ P c ρ' S' := by
  intro n
  induction n with
  | zero =>
    intro i ρ S hi p
    have e : i = c := by omega
    subst e
    exact ⟨ρ, S, forF_nil rfl, p⟩
  | succ n ih =>
    intro i ρ S hi p
    obtain ⟨ρ1, h1, ρ2, S2, h2, p2⟩ := step i ρ S (by omega) p
    obtain ⟨ρ', S', h3, p3⟩ := ih (i + 1) ρ2 S2 (by omega) p2
    refine ⟨ρ', S', ?_, p3⟩
    rw [forF_cons (d := .int (lo + i)) rfl h1, h2]
    exact h3
/-- while: from a run of the fuel form -/
theorem while_done {c : Mb} {b : Ms} {ρ : Env'} {S S1 : Sto} (h : c ρ S = .ok false S1) : sWhile c b ρ S = .fl (.nx ρ) S1 := by
  refine sWhile_eq (n := 1) ?_ (by intro e; cases e)
  rw [whileF, h]
  rfl
theorem while_step {c : Mb} {b : Ms} {ρ ρ1 : Env'} {S S1 S2 : Sto} {r : RS} (h : c ρ S = .ok true S1) (h1 : b ρ S1 = .fl (.nx ρ1) S2) (h2 : sWhile c b ρ1 S2 = r) (hr : r ≠ .stuck) : sWhile c b ρ S = r := by
  have e : ∃ n, whileF c b n ρ1 S2 = r := by
    unfold sWhile at h2
    split at h2
    · exact ⟨_, h2⟩
    · exact absurd h2.symm hr
  obtain ⟨n, e⟩ := e
  refine sWhile_eq (n := n + 1) ?_ hr
  rw [whileF, h]
  simp only [R.st, if_true, h1]
  exact e
theorem while_ret {c : Mb} {b : Ms} {ρ : Env'} {S S1 S2 : Sto} {d : D} (h : c ρ S = .ok true S1) (h1 : b ρ S1 = .fl (.rt d) S2) : sWhile c b ρ S = .fl (.rt d) S2 := by
  refine sWhile_eq (n := 1) ?_ (by intro e; cases e)
  rw [whileF, h]
  simp only [R.st, if_true, h1]
end Eng

/-! The engine, part 8: dicts, join, stores by index, in. -/
namespace Eng
open PySem PySem.Spec PyProof.Rows L2
variable [TabCfg]
section
variable {X : Cx} {W : WX} {pos : Pos}
/-! ### sep.join(xs) -/
def strsD : List D → Option (List Str)
  | [] => some []
  | .str x :: ds => (strsD ds).map (x :: ·)
  | _ => none
theorem strsD_ok {K : PySem.W.Frag} {mg : Str → Option Value} {β : List Addr} {H : Hp} : ∀ {ds : List D} {vs : List V} {ys : List Str}, Vds K mg β H vs ds → strsD ds = some ys → vs = ys.map V.str
  | [], _, _, h, e => by cases e; cases h; rfl
  | d :: ds, _, _, .cons h t, e => by
    cases d with
    | str x =>
      unfold strsD at e
      cases q : strsD ds with
      | none => rw [q] at e; cases e
      | some zs =>
        rw [q] at e
        cases e
        cases h
        rw [strsD_ok t q]
        rfl
    | _ => cases e
noncomputable def joinD (a : Str) (d : D) (S : Sto) : Option (D × Sto) := match seqD S d with
  | some ds => match strsD ds with
    | some ys => if cdec ((ys.map (·.length)).sum + ys.length * a.length ≤ 16777216) = true then some (.str (Txt.join a ys), S) else none
    | none => none
  | none => none
noncomputable def mJoin (mo m : Mx) : Mx := fun ρ S => (mo ρ S).bind fun o S1 => match o with
  | .str a => (m ρ S1).bind fun d S2 => R.ofO (joinD a d S2)
  | _ => .stuck
theorem me_join {o e : Expr} {mo m : Mx} {apos : Pos} (ho : ME X W o mo) (ha : ME X W e m) (hs : starEach [e] X.env = [(false, eval e X.env)] := by rfl) (hbase : attributeBase o "join" X.env (eval o X.env) = eval o X.env := by rfl) (hline : (apos.endLine == pos.line) = true := by rfl) :
    ME X W (.Call (.Attribute o "join" apos) [e] [] pos) (mJoin mo m) := by
  refine ⟨PE.weak (pe_join ho.pe ha.pe hs hbase hline) fun σ H Q ⟨β, S, ρ, rl, en, p⟩ => ⟨β, S, ρ, rl, en, (Po.bind p).mono fun d β1 S1 H1 x1 r1 q v hv => ?_⟩⟩
  cases d with
  | str a =>
    cases hv
    refine ⟨⟨a, rfl⟩, β1, S1, ρ, r1, en.ext x1, (Po.bind q).mono fun d2 β2 S2 H2 x2 r2 q2 u hu => ?_⟩
    obtain ⟨z, S3, e3, k⟩ := q2.ofO
    unfold joinD at e3
    cases e4 : seqD S2 d2 with
    | none => rw [e4] at e3; cases e3
    | some ds =>
      rw [e4] at e3
      dsimp only at e3
      cases e5 : strsD ds with
      | none => rw [e5] at e3; cases e3
      | some ys =>
        rw [e5] at e3
        dsimp only at e3
        split at e3
        · rename_i hl
          cases e3
          obtain ⟨p, us, rfl, h1, h2⟩ := seqD_ok r2 hu e4
          have e6 := strsD_ok h2 e5
          subst e6
          exact ⟨a, p, ys, rfl, rfl, h1.imp id .of, cdec_of hl, k β2 H2 .refl r2 _ (.str _)⟩
        · cases e3
  | _ => exact q.elim
/-! ### dicts: keys are whole numbers and texts, or tuples of them -/
def keyD : D → Option Key
  | .int i => some (.inl i)
  | .str x => some (.inr x)
  | _ => none
theorem keyD_ok {K : PySem.W.Frag} {mg : Str → Option Value} {β : List Addr} {H : Hp} {v : V} {d : D} {k : Key} (h : Vd K mg β H v d) (e : keyD d = some k) : v = kV k := by
  cases d with
  | int i => cases e; cases h; rfl
  | str x => cases e; cases h; rfl
  | _ => cases e
def keysD : List D → Option (List Key)
  | [] => some []
  | d :: ds => match keyD d, keysD ds with
    | some k, some ks => some (k :: ks)
    | _, _ => none
def keyT : D → Option (List Key)
  | .tup ds => keysD ds
  | _ => none
theorem keysD_ok {K : PySem.W.Frag} {mg : Str → Option Value} {β : List Addr} {H : Hp} : ∀ {ds : List D} {vs : List V} {ks : List Key}, Vds K mg β H vs ds → keysD ds = some ks → vs = ks.map kV
  | [], _, _, h, e => by cases e; cases h; rfl
  | d :: ds, _, _, .cons h t, e => by
    unfold keysD at e
    cases q1 : keyD d with
    | none => rw [q1] at e; cases e
    | some k =>
      cases q2 : keysD ds with
      | none => rw [q1, q2] at e; cases e
      | some ks =>
        rw [q1, q2] at e
        cases e
        rw [keyD_ok h q1, keysD_ok t q2]
        rfl
theorem keyT_ok {K : PySem.W.Frag} {mg : Str → Option Value} {β : List Addr} {H : Hp} {v : V} {d : D} {ks : List Key} (h : Vd K mg β H v d) (e : keyT d = some ks) : ∃ b, v = .ref b ∧ H b = some (.tup (ks.map kV)) := by
  cases d with
  | tup ds =>
    obtain ⟨a, us, rfl, h1, h2⟩ := h.tup_at
    have := keysD_ok h2 e
    subst this
    exact ⟨a, rfl, h1⟩
  | _ => cases e
section
variable {κ : Type} [DecidableEq κ]
def valD (kvs : List (κ × D)) (k : κ) : Option D := (kvs.find? fun kv => decide (kv.1 = k)).map (·.2)
def putD (kvs : List (κ × D)) (k : κ) (d : D) : List (κ × D) :=
  if (kvs.any fun kv => decide (kv.1 = k)) = true then kvs.map (fun kv => if kv.1 = k then (kv.1, d) else kv) else kvs ++ [(k, d)]
def dropD (kvs : List (κ × D)) (k : κ) : List (κ × D) := kvs.filter fun kv => decide (kv.1 ≠ k)
variable {K : PySem.W.Frag} {mg : Str → Option Value} {β : List Addr} {H : Hp} {xs : List (κ × V)} {ds : List (κ × D)}
/-- found alike -/
def OV (K : PySem.W.Frag) (mg : Str → Option Value) (β : List Addr) (H : Hp) : Option V → Option D → Prop
  | none, none => True
  | some v, some d => Vd K mg β H v d
  | _, _ => False
theorem Pd.val (h : Pd K mg β H xs ds) (k : κ) : OV K mg β H (valV xs k) (valD ds k) := by
  unfold Pd at h
  induction h with
  | nil => exact True.intro
  | @cons p q ps qs r t ih =>
    unfold valV valD
    rw [List.find?_cons, List.find?_cons, r.1]
    cases decide (q.1 = k) with
    | true => exact r.2
    | false => exact ih
theorem Pd.any (h : Pd K mg β H xs ds) (k : κ) : (xs.any fun kv => decide (kv.1 = k)) = ds.any fun kv => decide (kv.1 = k) := by
  unfold Pd at h
  induction h with
  | nil => rfl
  | @cons p q ps qs r t ih => rw [List.any_cons, List.any_cons, r.1, ih]
theorem Pd.put (h : Pd K mg β H xs ds) (k : κ) {v : V} {d : D} (hv : Vd K mg β H v d) : Pd K mg β H (putK xs k v) (putD ds k d) := by
  unfold putK putD
  rw [h.any k]
  split
  · unfold Pd at h ⊢
    rename_i hh
    clear hh
    induction h with
    | nil => exact .nil
    | @cons p q ps qs r t ih =>
      refine .cons ?_ ih
      dsimp only
      rw [r.1]
      split
      · exact ⟨rfl, hv⟩
      · exact r
  · unfold Pd at h ⊢
    exact Paired.snoc h ⟨rfl, hv⟩
theorem Pd.drop (h : Pd K mg β H xs ds) (k : κ) : Pd K mg β H (dropK xs k) (dropD ds k) := by
  unfold Pd at h ⊢
  unfold dropK dropD
  induction h with
  | nil => exact .nil
  | @cons p q ps qs r t ih =>
    rw [List.filter_cons, List.filter_cons, r.1]
    split
    · exact .cons r ih
    · exact ih
end
/-- what a dict of the store holds at y -/
def dGet (S : Sto) (n : Nat) (y : D) : Option (Option D) := match S[n]? with
  | some (.dk kvs) => (keyD y).map fun k => valD kvs k
  | some (.dt kvs) => (keyT y).map fun k => valD kvs k
  | _ => none
def dPut (S : Sto) (n : Nat) (y d : D) : Option Sto := match S[n]? with
  | some (.dk kvs) => match keyD y with
    | some k => if kvs.length < sizeLine then some (S.set n (.dk (putD kvs k d))) else none
    | none => none
  | some (.dt kvs) => match keyT y with
    | some k => if kvs.length < sizeLine then some (S.set n (.dt (putD kvs k d))) else none
    | none => none
  | _ => none
theorem dGet_ok {K : PySem.W.Frag} {mg : Str → Option Value} {β : List Addr} {H : Hp} {S : Sto} {n : Nat} {a : Addr} {u : V} {y : D} {o : Option D} (r : Rl K mg β H S) (h : β[n]? = some a) (hy : Vd K mg β H u y) (e : dGet S n y = some o) : ∃ ov, DGet H a u ov ∧ OV K mg β H ov o := by
  unfold dGet at e
  cases q : S[n]? with
  | none => rw [q] at e; cases e
  | some ob =>
    rw [q] at e
    have ho := r.at' n a ob h q
    cases ob with
    | dk kvs =>
      dsimp only at e
      obtain ⟨xs, h1, h2⟩ := ho
      cases q2 : keyD y with
      | none => rw [q2] at e; cases e
      | some k =>
        rw [q2] at e
        cases e
        exact ⟨_, .inl ⟨xs, k, .inl h1, keyD_ok hy q2, rfl⟩, h2.val k⟩
    | dt kvs =>
      dsimp only at e
      obtain ⟨xs, h1, h2⟩ := ho
      cases q2 : keyT y with
      | none => rw [q2] at e; cases e
      | some k =>
        rw [q2] at e
        cases e
        obtain ⟨b, rfl, h3⟩ := keyT_ok hy q2
        exact ⟨_, .inr ⟨xs, k, b, .inl h1, rfl, h3, rfl⟩, h2.val k⟩
    | _ => cases e
theorem dPut_ok {K : PySem.W.Frag} {mg : Str → Option Value} {β : List Addr} {H : Hp} {S S' : Sto} {n : Nat} {a : Addr} {u v : V} {y d : D} (r : Rl K mg β H S) (h : β[n]? = some a) (hy : Vd K mg β H u y) (hv : Vd K mg β H v d) (e : dPut S n y d = some S') :
    ∃ H', DPut H a u v H' ∧ Rl K mg β H' S' ∧ Xt K β H β H' := by
  unfold dPut at e
  cases q : S[n]? with
  | none => rw [q] at e; cases e
  | some ob =>
    rw [q] at e
    have ho := r.at' n a ob h q
    cases ob with
    | dk kvs =>
      dsimp only at e
      obtain ⟨xs, h1, h2⟩ := ho
      cases q2 : keyD y with
      | none => rw [q2] at e; cases e
      | some k =>
        rw [q2] at e
        dsimp only at e
        split at e
        · rename_i hl
          cases e
          have := keyD_ok hy q2
          subst this
          obtain ⟨r', x'⟩ := r.write (o := .dK (putK xs k v)) (b' := .dk (putD kvs k d)) h q rfl rfl fun x => ⟨_, upd_same, (h2.put k hv).ext x⟩
          exact ⟨_, .inl ⟨xs, k, h1, rfl, by rw [h2.length]; exact hl, rfl⟩, r', x'⟩
        · cases e
    | dt kvs =>
      dsimp only at e
      obtain ⟨xs, h1, h2⟩ := ho
      cases q2 : keyT y with
      | none => rw [q2] at e; cases e
      | some k =>
        rw [q2] at e
        dsimp only at e
        split at e
        · rename_i hl
          cases e
          obtain ⟨b, rfl, h3⟩ := keyT_ok hy q2
          obtain ⟨r', x'⟩ := r.write (o := .dT (putK xs k v)) (b' := .dt (putD kvs k d)) h q rfl rfl fun x => ⟨_, upd_same, (h2.put k hv).ext x⟩
          exact ⟨_, .inr ⟨xs, k, b, h1, rfl, h3, by rw [h2.length]; exact hl, rfl⟩, r', x'⟩
        · cases e
    | _ => cases e
/-- a new dict -/
theorem Rl.newDk {K : PySem.W.Frag} {mg : Str → Option Value} {β : List Addr} {H : Hp} {S : Sto} {xs : List (Key × V)} {ds : List (Key × D)} (r : Rl K mg β H S) (hv : Pd K mg β H xs ds) {q : Addr} (hq : H q = none) :
    Xt K β H (β ++ [q]) (upd H q (.dK xs)) ∧ Rl K mg (β ++ [q]) (upd H q (.dK xs)) (S ++ [.dk ds]) ∧ Vd K mg (β ++ [q]) (upd H q (.dK xs)) (.ref q) (.ref S.length) := by
  have x : Xt K β H (β ++ [q]) (upd H q (.dK xs)) := xt_new hq
  refine ⟨x, r.new hq ⟨xs, upd_same, hv.ext x⟩, .ref ?_⟩
  rw [← r.len, List.getElem?_append_right (Nat.le_refl _), Nat.sub_self]
  rfl
theorem Rl.newDt {K : PySem.W.Frag} {mg : Str → Option Value} {β : List Addr} {H : Hp} {S : Sto} {xs : List (List Key × V)} {ds : List (List Key × D)} (r : Rl K mg β H S) (hv : Pd K mg β H xs ds) {q : Addr} (hq : H q = none) :
    Xt K β H (β ++ [q]) (upd H q (.dT xs)) ∧ Rl K mg (β ++ [q]) (upd H q (.dT xs)) (S ++ [.dt ds]) ∧ Vd K mg (β ++ [q]) (upd H q (.dT xs)) (.ref q) (.ref S.length) := by
  have x : Xt K β H (β ++ [q]) (upd H q (.dT xs)) := xt_new hq
  refine ⟨x, r.new hq ⟨xs, upd_same, hv.ext x⟩, .ref ?_⟩
  rw [← r.len, List.getElem?_append_right (Nat.le_refl _), Nat.sub_self]
  rfl
def mDk : Mx := fun _ S => .ok (.ref S.length) (S ++ [.dk []])
def mDt : Mx := fun _ S => .ok (.ref S.length) (S ++ [.dt []])
theorem me_dk : ME X W (.Dict [] [] pos) mDk := by
  refine ⟨PE.weak pe_dnewK fun σ H Q ⟨β, S, ρ, rl, en, p⟩ => fun q hq => ?_⟩
  obtain ⟨x, r, v⟩ := rl.newDk (ds := []) (xs := []) .nil hq
  exact p _ _ x r _ v
theorem me_dt : ME X W (.Dict [] [] pos) mDt := by
  refine ⟨PE.weak pe_dnewT fun σ H Q ⟨β, S, ρ, rl, en, p⟩ => fun q hq => ?_⟩
  obtain ⟨x, r, v⟩ := rl.newDt (ds := []) (xs := []) .nil hq
  exact p _ _ x r _ v
/-! #### displays -/
abbrev Mps := Env' → Sto → R (List (D × D))
def mPs0 : Mps := fun _ S => .ok [] S
def mPs1 (mk mv : Mx) (mr : Mps) : Mps := fun ρ S => (mk ρ S).bind fun k S1 => (mv ρ S1).bind fun v S2 => (mr ρ S2).bind fun ps S3 => .ok ((k, v) :: ps) S3
structure MPs (X : Cx) (W : WX) (pos : Pos) (keys : List (Option Expr)) (values : List Expr) (m : Mps) (n : Nat) : Prop where
  run : ∃ trs, PPs X pos keys values trs ∧ keys.length = n ∧ values.length = n ∧ keys.all (·.isSome) = true ∧ ∀ σ H β S ρ (Q : List (V × V) → Hp → Prop), Rl X.K X.mg β H S → En X.K X.mg β H ρ σ →
    Po X.K X.mg W σ β H (m ρ S) (fun ps β' _ H' => ∀ vs, Paired (fun p q => Vd X.K X.mg β' H' p.1 q.1 ∧ Vd X.K X.mg β' H' p.2 q.2) vs ps → Q vs H') → tPairs trs σ H Q
theorem mps_nil : MPs X W pos [] [] mPs0 0 := ⟨[], pps_nil, rfl, rfl, rfl, fun σ H β S ρ Q rl en p => p β H .refl rl [] .nil⟩
theorem mps_cons {k v : Expr} {ks : List (Option Expr)} {vs : List Expr} {mk mv : Mx} {mr : Mps} {n : Nat} (hk : ME X W k mk) (hv : ME X W v mv) (hr : MPs X W pos ks vs mr n) : MPs X W pos (some k :: ks) (v :: vs) (mPs1 mk mv mr) (n + 1) := by
  obtain ⟨trs, h1, h2, h3, h4, h5⟩ := hr
  refine ⟨_, pps_cons hk.pe hv.pe h1, congrArg (· + 1) h2, congrArg (· + 1) h3, h4, fun σ H β S ρ Q rl en p => ?_⟩
  refine ⟨β, S, ρ, rl, en, (Po.bind p).mono fun d β1 S1 H1 x1 r1 q1 u hu => ⟨β1, S1, ρ, r1, en.ext x1, (Po.bind q1).mono fun e β2 S2 H2 x2 r2 q2 w hw => h5 σ H2 β2 S2 ρ _ r2 (en.ext (x1.trans x2)) ((Po.bind q2).mono fun ps β3 S3 H3 x3 r3 q3 us hus => ?_)⟩⟩
  exact q3 β3 H3 .refl r3 _ (.cons ⟨hu.ext (x2.trans x3), hw.ext x3⟩ hus)
def keyPs : List (D × D) → Option (List (Key × D))
  | [] => some []
  | (k, v) :: r => match keyD k, keyPs r with
    | some k', some r' => some ((k', v) :: r')
    | _, _ => none
def mergeD (kvs more : List (Key × D)) : List (Key × D) := more.foldl (fun acc kv => putD acc kv.1 kv.2) kvs
theorem keyPs_ok {K : PySem.W.Frag} {mg : Str → Option Value} {β : List Addr} {H : Hp} : ∀ {ps : List (D × D)} {vs : List (V × V)} {ks : List (Key × D)}, Paired (fun p q => Vd K mg β H p.1 q.1 ∧ Vd K mg β H p.2 q.2) vs ps → keyPs ps = some ks →
    ∃ kvs : List (Key × V), vs = kvs.map (fun kv => (kV kv.1, kv.2)) ∧ Pd K mg β H kvs ks
  | [], _, _, h, e => by cases e; cases h; exact ⟨[], rfl, .nil⟩
  | (k, v) :: r, _, _, .cons (a := a) h t, e => by
    unfold keyPs at e
    cases q1 : keyD k with
    | none => rw [q1] at e; cases e
    | some k' =>
      cases q2 : keyPs r with
      | none => rw [q1, q2] at e; cases e
      | some r' =>
        rw [q1, q2] at e
        cases e
        obtain ⟨kvs, rfl, h2⟩ := keyPs_ok t q2
        obtain ⟨x, y⟩ := a
        have h1 : x = kV k' := keyD_ok h.1 q1
        subst h1
        exact ⟨(k', y) :: kvs, rfl, .cons ⟨rfl, h.2⟩ h2⟩
theorem Pd.merge {K : PySem.W.Frag} {mg : Str → Option Value} {β : List Addr} {H : Hp} : ∀ {more : List (Key × V)} {m2 : List (Key × D)} {kvs : List (Key × V)} {k2 : List (Key × D)}, Pd K mg β H more m2 → Pd K mg β H kvs k2 → Pd K mg β H (mergeK kvs more) (mergeD k2 m2) := by
  intro more m2 kvs k2 r
  unfold Pd at r
  induction r generalizing kvs k2 with
  | nil => intro q; exact q
  | @cons p q ps qs h t ih =>
    intro r0
    refine ih ?_
    dsimp only
    rw [h.1]
    exact r0.put q.1 h.2
def mDisp (m : Mps) : Mx := fun ρ S => (m ρ (S ++ [.dk []])).bind fun ps S1 => match S1[S.length]?, keyPs ps with
  | some (.dk []), some ks => .ok (.ref S.length) (S1.set S.length (.dk (mergeD [] ks)))
  | _, _ => .stuck
theorem mPs_len {m : Mps} : True := True.intro
theorem me_disp {keys : List (Option Expr)} {values : List Expr} {m : Mps} {n : Nat} (h : MPs X W pos keys values m n) (h0 : keys ≠ [] := by exact fun e => nomatch e) (h15 : n ≤ 15 := by decide)
    (hlen : ∀ ρ S ps S', m ρ S = .ok ps S' → ps.length ≤ 15) : ME X W (.Dict keys values pos) (mDisp m) := by
  obtain ⟨trs, h1, h2, h3, h4, h5⟩ := h
  refine ⟨PE.weak (pe_disp h1 h4 (by rw [h2, h3]) h0 (by rw [h2]; exact h15)) fun σ H Q ⟨β, S, ρ, rl, en, p⟩ => fun q hq => ?_⟩
  obtain ⟨x, r, v⟩ := rl.newDk (ds := []) (xs := []) .nil hq
  have p' := (show Po X.K X.mg W σ β H ((m ρ (S ++ [.dk []])).bind _) _ from p).bind
  refine h5 σ _ _ _ ρ _ r (en.ext x) ?_
  cases e : m ρ (S ++ [.dk []]) with
  | stuck => rw [e] at p'; exact p'.elim
  | ex z S1 =>
    rw [e] at p'
    exact fun cls od β' H' y r q => p' cls od β' H' (x.trans y) r q
  | ok ps S1 =>
    rw [e] at p'
    have hps := hlen _ _ _ _ e
    intro β2 H2 x2 r2 vs hvs
    have p2 := p' β2 H2 (x.trans x2) r2
    dsimp only at p2
    have hb : β2[S.length]? = some q := by
      refine x2.at' ?_
      rw [← rl.len, List.getElem?_append_right (Nat.le_refl _), Nat.sub_self]
      rfl
    split at p2
    · rename_i ks e1 e2
      obtain ⟨xs, h6, h7⟩ := r2.at' _ q _ hb e1
      cases h7
      obtain ⟨kvs, rfl, h8⟩ := keyPs_ok hvs e2
      have hl : kvs.length ≤ 15 := by
        have a1 : (kvs.map fun kv => (kV kv.1, kv.2)).length = ps.length := Paired.length hvs
        rw [List.length_map] at a1
        omega
      obtain ⟨r3, x3⟩ := r2.write (o := .dK (mergeK [] kvs)) (b' := .dk (mergeD [] ks)) hb e1 rfl rfl fun x => ⟨_, upd_same, ((Pd.merge h8 .nil).ext x)⟩
      exact ⟨h6, kvs, rfl, hl, p2 _ _ x3 r3 _ (.ref hb)⟩
    · exact p2.elim
theorem mps_len0 : ∀ ρ S ps S', mPs0 ρ S = .ok ps S' → ps.length = 0 := by
  intro ρ S ps S' e
  cases e
  rfl
theorem mps_len1 {mk mv : Mx} {mr : Mps} {n : Nat} (h : ∀ ρ S ps S', mr ρ S = .ok ps S' → ps.length = n) : ∀ ρ S ps S', mPs1 mk mv mr ρ S = .ok ps S' → ps.length = n + 1 := by
  intro ρ S ps S' e
  unfold mPs1 at e
  cases q1 : mk ρ S with
  | ok k S1 =>
    rw [q1] at e
    simp only [R.bind] at e
    cases q2 : mv ρ S1 with
    | ok v S2 =>
      rw [q2] at e
      simp only at e
      cases q3 : mr ρ S2 with
      | ok r S3 =>
        rw [q3] at e
        cases e
        exact congrArg (· + 1) (h _ _ _ _ q3)
      | ex z S3 => rw [q3] at e; cases e
      | stuck => rw [q3] at e; cases e
    | ex z S2 => rw [q2] at e; cases e
    | stuck => rw [q2] at e; cases e
  | ex z S1 => rw [q1] at e; cases e
  | stuck => rw [q1] at e; cases e
theorem mps_le {m : Mps} {n : Nat} (h : ∀ ρ S ps S', m ρ S = .ok ps S' → ps.length = n) (hn : n ≤ 15 := by decide) : ∀ ρ S ps S', m ρ S = .ok ps S' → ps.length ≤ 15 := fun ρ S ps S' e => by rw [h ρ S ps S' e]; exact hn
/-! ### a[b]: lists, tuples, texts, dicts -/
def fItem : F2
  | .tup xs, .int i, S => (atI xs i).map fun d => (d, S)
  | .str z, .int i, S => if z.length ≤ sizeLine then (atI z.cps.toList i).map fun c => (.str ⟨#[c]⟩, S) else none
  | .ref n, y, S => match S[n]? with
    | some (.lst xs) => match y with
      | .int i => (atI xs i).map fun d => (d, S)
      | _ => none
    | some (.rdl xs) => match y with
      | .int i => (atI xs i).map fun d => (d, S)
      | _ => none
    | _ => match dGet S n y with
      | some (some d) => some (d, S)
      | _ => none
  | _, _, _ => none
theorem fItem_ix {x y : D} {S : Sto} : fItem x y S = fIx x y S ∨ (∃ n, x = .ref n ∧ fItem x y S = match dGet S n y with
      | some (some d) => some (d, S)
      | _ => none) := by
  cases x with
  | ref n =>
    cases q : S[n]? with
    | none => exact .inr ⟨n, rfl, by simp [fItem, q]⟩
    | some o =>
      cases o with
      | lst xs => left; cases y <;> simp [fItem, fIx, lstAt, q]
      | rdl xs => left; cases y <;> simp [fItem, fIx, lstAt, q]
      | _ => exact .inr ⟨n, rfl, by simp [fItem, q]⟩
  | _ => left; cases y <;> rfl
theorem me_item {k : Nat} {a b : Expr} {ma mb : Mx} (hr : Room k X.A) (ha : ME X W a ma) (hb : ME X W b mb) (hs : PlainIx b := by exact fun _ _ => rfl) (hn : NoSl b := by exact fun _ _ => rfl) : ME X W (.Subscript a b pos) (mBin fItem ma mb) := by
  have hu : X.A.units + 1 < cLine := by have := hr.units; omega
  refine ⟨⟨fun pins s σ H Q I ⟨β, S, ρ, rl, en, p⟩ => ?_⟩⟩
  by_cases h : mBin fItem ma mb ρ S = mBin fIx ma mb ρ S
  · rw [h] at p
    exact (me_ix ha hb hs).pe.run pins s σ H Q I ⟨β, S, ρ, rl, en, p⟩
  · refine (pe_dget hu ha.pe hb.pe hn).run pins s σ H Q I ⟨β, S, ρ, rl, en, ?_⟩
    have p1 := (show Po X.K X.mg W σ β H ((ma ρ S).bind _) _ from p).bind
    unfold mBin at h
    cases e1 : ma ρ S with
    | stuck => rw [e1] at p1; exact p1.elim
    | ex z S1 => rw [e1] at p1; exact p1
    | ok x S1 =>
      rw [e1] at p1 h
      intro β1 H1 x1 r1 v hv
      refine ⟨β1, S1, ρ, r1, en.ext x1, ?_⟩
      have p2 := (p1 β1 H1 x1 r1).bind
      cases e2 : mb ρ S1 with
      | stuck => rw [e2] at p2; exact p2.elim
      | ex z S2 => rw [e2] at p2; exact p2
      | ok y S2 =>
        rw [e2] at p2
        intro β2 H2 x2 r2 u hu2
        have p3 := p2 β2 H2 x2 r2
        rcases fItem_ix (x := x) (y := y) (S := S2) with q | ⟨n, rfl, q⟩
        · refine absurd ?_ h
          show (mb ρ S1).bind _ = (mb ρ S1).bind _
          rw [e2]
          show R.ofO _ = R.ofO _
          rw [q]
        · rw [q] at p3
          obtain ⟨a', rfl, h1⟩ := (hv.ext x2).ref_inv
          split at p3
          · rename_i d e3
            obtain ⟨ov, g, w⟩ := dGet_ok r2 h1 hu2 e3
            cases ov with
            | none => exact w.elim
            | some w' => exact ⟨a', w', rfl, g, p3 β2 H2 .refl r2 w' w⟩
          · exact p3.elim
/-! ### x in y -/
def flatD : D → Bool
  | .non => true
  | .bl _ => true
  | .int _ => true
  | .str _ => true
  | _ => false
def eqF : D → D → Bool
  | .non, .non => true
  | .bl a, .bl b => a == b
  | .bl a, .int b => (if a then 1 else 0) == b
  | .int a, .bl b => a == (if b then 1 else 0)
  | .int a, .int b => a == b
  | .str a, .str b => a == b
  | _, _ => false
def inSeq (S : Sto) (x : D) (ds : List D) : Option Bool := if (flatD x && ds.all flatD) = true then some (ds.any fun y => eqF y x) else none
def inDeep (S : Sto) (x : D) (n : Nat) : Option Bool := match toPy S 64 x, toPy S 64 (.ref n) with
  | some p, some (.list ps) => if (SeqAt.shaped p && SeqAt.shaped (.list ps)) = true then some (ps.any fun z => PyData.eqv z p) else none
  | _, _ => none
def inD (x y : D) (S : Sto) : Option Bool := match y with
  | .str z => match x with
    | .str w => match w.cps.toList with
      | [c] => some (decide (c ∈ z.cps.toList))
      | _ => none
    | _ => none
  | .tup ds => inSeq S x ds
  | .ref n => match lstAt S n with
    | some ds => match inSeq S x ds with
      | some b => some b
      | none => inDeep S x n
    | none => (dGet S n x).map (·.isSome)
  | _ => none
def fIn : F2 := fun x y S => (inD x y S).map fun b => (.bl b, S)
def fNotIn : F2 := fun x y S => (inD x y S).map fun b => (.bl (!b), S)
def rInDict (neg : Bool) : R2 := fun y x H Q => ∃ a o, x = .ref a ∧ DGet H a y o ∧ Q (.bl (if neg then !o.isSome else o.isSome)) H
theorem op_inDict {k : Nat} (hr : Room k X.A) : OpR X (compareOp .In) (rInDict false) := by
  intro pins s σ H x y v u Q I rx ry ⟨a, o, e, g, q⟩
  subst e
  obtain rfl : u = Value.ref a := ry
  exact d_in (by have := hr.units; omega) I g rx fun s3 I3 => ⟨.bl o.isSome, H, I3, rfl, q⟩
theorem op_notInDict {k : Nat} (hr : Room k X.A) : OpR X (compareOp .NotIn) (rInDict true) := by
  intro pins s σ H x y v u Q I rx ry ⟨a, o, e, g, q⟩
  subst e
  obtain rfl : u = Value.ref a := ry
  exact d_notIn (by have := hr.units; omega) I g rx fun s3 I3 => ⟨.bl (!o.isSome), H, I3, rfl, q⟩
def rInAll (X : Cx) : R2 := fun x y H Q => (rInS x y H Q ∨ rIn X.K false x y H Q) ∨ (rInD X.K x y H Q ∨ rInDict false x y H Q)
def rNotInAll (X : Cx) : R2 := fun x y H Q => (rNotInS x y H Q ∨ rIn X.K true x y H Q) ∨ (rNotInD X.K x y H Q ∨ rInDict true x y H Q)
theorem op_inAll {k : Nat} (hr : Room k X.A) : OpR X (compareOp .In) (rInAll X) := OpR.or (OpR.or op_inS op_in_seq) (OpR.or (op_inD (by have := hr.un; omega)) (op_inDict hr))
theorem op_notInAll {k : Nat} (hr : Room k X.A) : OpR X (compareOp .NotIn) (rNotInAll X) := OpR.or (OpR.or op_notInS op_notIn_seq) (OpR.or (op_notInD (by have := hr.un; omega)) (op_notInDict hr))
section
variable {K : PySem.W.Frag} {mg : Str → Option Value} {β : List Addr} {H : Hp} {S : Sto} {v u : V} {x y : D}
theorem flat_ok (h : Vd K mg β H v x) (e : flatD x = true) : flatV v = true := by cases h <;> first | rfl | cases e
theorem flats_ok : ∀ {vs : List V} {ds : List D}, Vds K mg β H vs ds → ds.all flatD = true → vs.all flatV = true
  | _, _, .nil, _ => rfl
  | _, _, .cons h t, e => by
    rw [List.all_cons, Bool.and_eq_true] at e ⊢
    exact ⟨flat_ok h e.1, flats_ok t e.2⟩
theorem eqF_ok (h : Vd K mg β H v x) (h2 : Vd K mg β H u y) (e : flatD x = true) (e2 : flatD y = true) : eqV v u = eqF x y := by
  cases h <;> cases h2 <;> first | rfl | cases e | cases e2
theorem inV_ok (h2 : Vd K mg β H u y) (e2 : flatD y = true) : ∀ {vs : List V} {ds : List D}, Vds K mg β H vs ds → ds.all flatD = true → inV u vs = ds.any fun z => eqF z y
  | _, _, .nil, _ => rfl
  | _, _, .cons h t, e => by
    rw [List.all_cons, Bool.and_eq_true] at e
    have ih := inV_ok h2 e2 t e.2
    unfold inV at ih ⊢
    rw [List.any_cons, List.any_cons, ih, eqF_ok h h2 e.1 e2]
theorem inD_ok {X : Cx} {β : List Addr} {H : Hp} (neg : Bool) {b : Bool} (r : Rl X.K X.mg β H S) (hx : Vd X.K X.mg β H v x) (hy : Vd X.K X.mg β H u y) (e : inD x y S = some b) {Q : VK} (q : Q (.bl (if neg then !b else b)) H) : if neg = true then rNotInAll X v u H Q else rInAll X v u H Q := by
  have seq : ∀ (p : Addr) (us : List V) (ds : List D), (SqL X.K H p us ∨ SqT X.K H p us) → Vds X.K X.mg β H us ds → inSeq S x ds = some b → rIn X.K neg v (.ref p) H Q := by
    intro p us ds hs hu e
    unfold inSeq at e
    split at e
    · rename_i hf
      rw [Bool.and_eq_true] at hf
      cases e
      refine ⟨p, us, rfl, hs, flat_ok hx hf.1, flats_ok hu hf.2, ?_⟩
      rw [inV_ok hx hf.1 hu hf.2]
      exact q
    · cases e
  have fin : (rInS v u H Q ∧ neg = false ∨ rNotInS v u H Q ∧ neg = true) ∨ rIn X.K neg v u H Q ∨ (rInD X.K v u H Q ∧ neg = false ∨ rNotInD X.K v u H Q ∧ neg = true) ∨ rInDict neg v u H Q → if neg = true then rNotInAll X v u H Q else rInAll X v u H Q := by
    cases neg with
    | true =>
      rw [if_pos rfl]
      rintro ((⟨_, h⟩ | ⟨h, _⟩) | h | (⟨_, h⟩ | ⟨h, _⟩) | h)
      · cases h
      · exact .inl (.inl h)
      · exact .inl (.inr h)
      · cases h
      · exact .inr (.inl h)
      · exact .inr (.inr h)
    | false =>
      rw [if_neg Bool.false_ne_true]
      rintro ((⟨h, _⟩ | ⟨_, h⟩) | h | (⟨h, _⟩ | ⟨_, h⟩) | h)
      · exact .inl (.inl h)
      · cases h
      · exact .inl (.inr h)
      · exact .inr (.inl h)
      · cases h
      · exact .inr (.inr h)
  refine fin ?_
  cases y with
  | str z =>
    cases hy
    unfold inD at e
    dsimp only at e
    cases x with
    | str w =>
      cases hx
      dsimp only at e
      split at e
      · rename_i c ec
        cases e
        have ew : w = ⟨#[c]⟩ := by
          cases w
          congr 1
          exact Array.toList_inj.mp ec
        subst ew
        cases neg with
        | true => exact .inl (.inr ⟨⟨c, z, rfl, rfl, q⟩, rfl⟩)
        | false => exact .inl (.inl ⟨⟨c, z, rfl, rfl, q⟩, rfl⟩)
      · cases e
    | _ => cases e
  | tup ds =>
    obtain ⟨p, us, rfl, h1, h2⟩ := hy.tup_inv
    exact .inr (.inl (seq p us ds (.inr h1) h2 e))
  | ref n =>
    obtain ⟨p, rfl, h1⟩ := hy.ref_inv
    unfold inD at e
    dsimp only at e
    cases q1 : lstAt S n with
    | some ds =>
      rw [q1] at e
      dsimp only at e
      obtain ⟨us, h2, h3⟩ := lst_read r h1 q1
      cases q2 : inSeq S x ds with
      | some b' =>
        rw [q2] at e
        cases e
        exact .inr (.inl (seq p us ds (.inl h2) h3 q2))
      | none =>
        rw [q2] at e
        dsimp only at e
        unfold inDeep at e
        split at e
        · rename_i d ps e1 e2
          split at e
          · rename_i hs
            rw [Bool.and_eq_true] at hs
            cases e
            have k1 := toPy_ok r 64 x v d hx e1
            have k2 := toPy_ok r 64 (.ref n) (.ref p) (.list ps) (.ref h1) e2
            cases neg with
            | true => exact .inr (.inr (.inl (.inr ⟨⟨d, ps, k1, k2, hs.1, hs.2, q⟩, rfl⟩)))
            | false => exact .inr (.inr (.inl (.inl ⟨⟨d, ps, k1, k2, hs.1, hs.2, q⟩, rfl⟩)))
          · cases e
        · cases e
    | none =>
      rw [q1] at e
      dsimp only at e
      cases q2 : dGet S n x with
      | none => rw [q2] at e; cases e
      | some o =>
        rw [q2] at e
        cases e
        obtain ⟨ov, g, w⟩ := dGet_ok r h1 hx q2
        have eo : ov.isSome = o.isSome := by
          cases ov <;> cases o <;> first | rfl | exact w.elim
        exact .inr (.inr (.inr ⟨p, ov, rfl, g, by rw [eo]; exact q⟩))
  | _ => cases e
end
theorem o_in : Op2 X (rInAll X) fIn := by
  intro β H S x y v u d S' Q r hx hy e k
  unfold fIn at e
  cases q : inD x y S with
  | none => rw [q] at e; cases e
  | some b =>
    rw [q] at e
    cases e
    have := inD_ok (X := X) false r hx hy q (Q := Q) (k β H _ .refl r (.bl _))
    simpa using this
theorem o_notIn : Op2 X (rNotInAll X) fNotIn := by
  intro β H S x y v u d S' Q r hx hy e k
  unfold fNotIn at e
  cases q : inD x y S with
  | none => rw [q] at e; cases e
  | some b =>
    rw [q] at e
    cases e
    have := inD_ok (X := X) true r hx hy q (Q := Q) (k β H _ .refl r (.bl _))
    simpa using this
/-! ### o[i] = v -/
def setI (o i d : D) (S : Sto) : Option Sto := match o with
  | .ref n => match S[n]? with
    | some (.lst xs) => match i with
      | .int k => match ixN xs.length k with
        | some j => some (S.set n (.lst (xs.set j d)))
        | none => none
      | _ => none
    | _ => dPut S n i d
  | _ => none
def sPut (mo mi mv : Mx) : Ms := fun ρ S => (mv ρ S).st ρ fun d S1 => (mo ρ S1).st ρ fun o S2 => (mi ρ S2).st ρ fun i S3 => match setI o i d S3 with
  | some S4 => .fl (.nx ρ) S4
  | none => .stuck
theorem PSet.or {t t' : TSet} (h : PSet X t) (h' : PSet X t') : PSet X fun o i v H Q => t o i v H Q ∨ t' o i v H Q := by
  intro pins s σ H o i v ov iv u Q I ro ri rv q
  rcases q with q | q
  · exact h pins s σ H o i v ov iv u Q I ro ri rv q
  · exact h' pins s σ H o i v ov iv u Q I ro ri rv q
theorem setI_ok {β : List Addr} {H : Hp} {S S' : Sto} {o i d : D} {vo vi vd : V} (r : Rl X.K X.mg β H S) (ho : Vd X.K X.mg β H vo o) (hi : Vd X.K X.mg β H vi i) (hd : Vd X.K X.mg β H vd d) (e : setI o i d S = some S') {Q : Hp → Prop} (k : ∀ H', Rl X.K X.mg β H' S' → Xt X.K β H β H' → Q H') :
    rSetL vo vi vd H Q ∨ rSetD vo vi vd H Q := by
  cases o with
  | ref n =>
    obtain ⟨a, rfl, h1⟩ := ho.ref_inv
    have dict : dPut S n i d = some S' → rSetD (.ref a) vi vd H Q := fun e => by
      obtain ⟨H', g, r', x'⟩ := dPut_ok r h1 hi hd e
      exact ⟨a, H', rfl, g, k H' r' x'⟩
    unfold setI at e
    dsimp only at e
    cases q : S[n]? with
    | none => rw [q] at e; exact .inr (dict e)
    | some ob =>
      rw [q] at e
      cases ob with
      | lst xs =>
        cases i with
        | int kk =>
          cases hi
          dsimp only at e
          cases q2 : ixN xs.length kk with
          | none => rw [q2] at e; cases e
          | some j =>
            rw [q2] at e
            cases e
            obtain ⟨us, h3, h4⟩ := r.lst_at h1 q
            obtain ⟨r', x'⟩ := r.write (o := .lst (us.set j vd)) (b' := .lst (xs.set j d)) h1 q rfl rfl fun x => ⟨_, upd_same, (h4.set j hd).ext x⟩
            exact .inl ⟨a, us, kk, j, rfl, rfl, h3, by rw [h4.length]; exact q2, k _ r' x'⟩
        | _ => cases e
      | _ => exact .inr (dict e)
  | _ => cases e
theorem ms_put {k : Nat} {o i e : Expr} {mo mi m : Mx} {ipos : Pos} (hr : Room k X.A) (ho : ME X W o mo) (hi : ME X W i mi) (he : ME X W e m)
    (ha : ∀ v, assign (.Subscript o i ipos) X.env v = (do
      let ov ← holding [v] (eval o X.env)
      let iv ← holding [v, ov] (eval i X.env)
      standAt ipos
      holding [v, ov, iv] (setItem ov iv v)
      release [v, ov, iv] []) := by intro _; rfl)
    (hs : swapsWithSole [.Subscript o i ipos] e pos.line X.env = pure false := by rfl) (hw : swappedStores [.Subscript o i ipos] e X.env = pure none := by rfl)
    (h1 : (assignEach [.Subscript o i ipos] X.env).map (·.2) = [assign (.Subscript o i ipos) X.env] := by rfl) : MS X W (.Assign [.Subscript o i ipos] e pos) (sPut mo mi m) := by
  have hu : X.A.units + 1 < cLine := by have := hr.units; omega
  refine ⟨PS.weak (ps_asg he.pe (pg_sub ho.pe hi.pe (PSet.or set_list (set_dict hu)) ha) hs hw h1) fun D σ H ⟨β, S, ρ, rl, en, p⟩ => ?_⟩
  refine ⟨β, S, ρ, rl, en, (PoS.st p en).mono fun d β1 S1 H1 x1 r1 q1 v hv => ⟨β1, S1, ρ, r1, en.ext x1, (PoS.st q1 (en.ext x1)).mono fun od β2 S2 H2 x2 r2 q2 ov hov => ⟨β2, S2, ρ, r2, en.ext (x1.trans x2), (PoS.st q2 (en.ext (x1.trans x2))).mono fun id β3 S3 H3 x3 r3 q3 iv hiv => ?_⟩⟩⟩
  cases e4 : setI od id d S3 with
  | none => rw [e4] at q3; exact q3.elim
  | some S4 =>
    rw [e4] at q3
    exact setI_ok r3 (hov.ext x3) hiv (hv.ext (x2.trans x3)) e4 fun H' r' x' => q3 β3 H' σ x' r' (en.ext (((x1.trans x2).trans x3).trans x'))
end
end Eng

/-! The engine, part 9: rows for simp of part 8. -/
namespace Eng
open PySem PySem.Spec PyProof.Rows L2
variable [TabCfg]
section
variable {ρ : Env'} {S S' : Sto} {m ma mb mc mo mi : Mx} {x y d : D} {i j : Int} {k n : Nat}
@[simp] theorem ev_join : mJoin mo m ρ S = (mo ρ S).bind fun o S1 => match o with
  | .str a => (m ρ S1).bind fun d S2 => R.ofO (joinD a d S2)
  | _ => .stuck := nr rfl
@[simp] theorem ev_dk : mDk ρ S = .ok (.ref S.length) (S ++ [.dk []]) := nr rfl
@[simp] theorem ev_dt : mDt ρ S = .ok (.ref S.length) (S ++ [.dt []]) := nr rfl
@[simp] theorem ev_ps0 : mPs0 ρ S = .ok [] S := nr rfl
@[simp] theorem ev_ps1 {mr : Mps} : mPs1 ma mb mr ρ S = (ma ρ S).bind fun k S1 => (mb ρ S1).bind fun v S2 => (mr ρ S2).bind fun ps S3 => .ok ((k, v) :: ps) S3 := nr rfl
@[simp] theorem ev_disp {mp : Mps} : mDisp mp ρ S = (mp ρ (S ++ [.dk []])).bind fun ps S1 => match S1[S.length]?, keyPs ps with
  | some (.dk []), some ks => .ok (.ref S.length) (S1.set S.length (.dk (mergeD [] ks)))
  | _, _ => .stuck := nr rfl
@[simp] theorem keyD_int : keyD (.int i) = some (.inl i) := nr rfl
@[simp] theorem keyD_str {s : Str} : keyD (.str s) = some (.inr s) := nr rfl
@[simp] theorem keyPs_nil : keyPs [] = some [] := nr rfl
@[simp] theorem keyPs_cons {r : List (D × D)} : keyPs ((x, y) :: r) = match keyD x, keyPs r with
    | some k', some r' => some ((k', y) :: r')
    | _, _ => none := nr rfl
@[simp] theorem mergeD_nil {kvs : List (Key × D)} : mergeD kvs [] = kvs := nr rfl
@[simp] theorem mergeD_cons {kvs r : List (Key × D)} {p : Key × D} : mergeD kvs (p :: r) = mergeD (putD kvs p.1 p.2) r := nr rfl
@[simp] theorem putD_nil {κ : Type} [DecidableEq κ] {k : κ} : putD [] k d = [(k, d)] := by simp [putD]
@[simp] theorem fItem_tup {xs : List D} : fItem (.tup xs) (.int i) S = (atI xs i).map fun d => (d, S) := nr rfl
@[simp] theorem fItem_str {z : Str} : fItem (.str z) (.int i) S = if z.length ≤ 16777216 then (atI z.cps.toList i).map fun c => (.str ⟨#[c]⟩, S) else none := by
  unfold fItem
  rw [sizeLine_eq]
@[simp] theorem fItem_ref : fItem (.ref n) y S = match S[n]? with
    | some (.lst xs) => match y with
      | .int i => (atI xs i).map fun d => (d, S)
      | _ => none
    | some (.rdl xs) => match y with
      | .int i => (atI xs i).map fun d => (d, S)
      | _ => none
    | _ => match dGet S n y with
      | some (some d) => some (d, S)
      | _ => none := by cases y <;> rfl
theorem atI_lit {α : Type} {xs : List α} {n : Nat} {a : α} (h : xs[n]? = some a) : atI xs (n : Int) = some a := by
  have hl := (List.getElem?_eq_some_iff.mp h).1
  rw [atI_at (by omega) (by omega), Int.toNat_natCast, h]
@[simp] theorem atI_0 {α : Type} {a : α} {r : List α} : atI (a :: r) 0 = some a := atI_lit (n := 0) rfl
@[simp] theorem atI_1 {α : Type} {a b : α} {r : List α} : atI (a :: b :: r) 1 = some b := atI_lit (n := 1) rfl
@[simp] theorem atI_2 {α : Type} {a b c : α} {r : List α} : atI (a :: b :: c :: r) 2 = some c := atI_lit (n := 2) rfl
@[simp] theorem atI_3 {α : Type} {a b c d : α} {r : List α} : atI (a :: b :: c :: d :: r) 3 = some d := atI_lit (n := 3) rfl
@[simp] theorem atI_4 {α : Type} {a b c d e : α} {r : List α} : atI (a :: b :: c :: d :: e :: r) 4 = some e := atI_lit (n := 4) rfl
@[simp] theorem atI_5 {α : Type} {a b c d e f : α} {r : List α} : atI (a :: b :: c :: d :: e :: f :: r) 5 = some f := atI_lit (n := 5) rfl
@[simp] theorem atI_6 {α : Type} {a b c d e f g : α} {r : List α} : atI (a :: b :: c :: d :: e :: f :: g :: r) 6 = some g := atI_lit (n := 6) rfl
@[simp] theorem fIn_ev : fIn x y S = (inD x y S).map fun b => (.bl b, S) := nr rfl
@[simp] theorem fNotIn_ev : fNotIn x y S = (inD x y S).map fun b => (.bl (!b), S) := nr rfl
@[simp] theorem ev_put : sPut mo mi m ρ S = (m ρ S).st ρ fun d S1 => (mo ρ S1).st ρ fun o S2 => (mi ρ S2).st ρ fun i S3 => match setI o i d S3 with
  | some S4 => .fl (.nx ρ) S4
  | none => .stuck := nr rfl
@[simp] theorem setI_ref : setI (.ref n) x d S = match S[n]? with
    | some (.lst xs) => match x with
      | .int k => match ixN xs.length k with
        | some j => some (S.set n (.lst (xs.set j d)))
        | none => none
      | _ => none
    | _ => dPut S n x d := nr rfl
theorem lst_of {xs : List D} (h : lstAt S n = some xs) : fItem (.ref n) (.int i) S = (atI xs i).map fun d => (d, S) := by
  unfold lstAt at h
  split at h
  · rename_i q
    cases h
    rw [fItem_ref, q]
  · rename_i q
    cases h
    rw [fItem_ref, q]
  · cases h
theorem joinD_of {a : Str} {ds : List D} {ys : List Str} (h : seqD S d = some ds) (h2 : strsD ds = some ys) (h3 : (ys.map (·.length)).sum + ys.length * a.length ≤ 16777216) : joinD a d S = some (.str (Txt.join a ys), S) := by
  unfold joinD
  rw [h]
  dsimp only
  rw [h2]
  dsimp only
  rw [if_pos (cdec_is h3)]

theorem log_lt {n k : Nat} (h : n < 2 ^ k) (hk : 0 < k) : n.log2 < k := by
  by_cases h0 : n = 0
  · subst h0
    simpa using hk
  · exact (Nat.log2_lt h0).mpr h
theorem cMul1_of {a b : Nat} (h1 : i.natAbs < 2 ^ a) (h2 : j.natAbs < 2 ^ b) (ha : 0 < a) (hb : 0 < b) (h : a + b ≤ 1000000) : cMul1 i j = true := by
  have e1 := log_lt h1 ha
  have e2 := log_lt h2 hb
  unfold cMul1
  rw [Bool.or_eq_true]
  exact .inr (cdec_is (by omega))
/-! loops by an invariant -/
theorem for_inv {it : ItD} {f : Ft} {b : Ms} (P : Nat → Env' → Sto → Prop) (step : ∀ i ρ S, i < it.cnt → P i ρ S → ∃ d ρ1 ρ2 S2, it.nx i S = some d ∧ f d ρ = some ρ1 ∧ b ρ1 S = .fl (.nx ρ2) S2 ∧ P (i + 1) ρ2 S2)
    (fin : ∀ ρ S, P it.cnt ρ S → it.fin S = true) {ρ : Env'} {S : Sto} (h0 : P 0 ρ S) : ∃ ρ' S', forF it f b it.cnt 0 ρ S = .fl (.nx ρ') S' ∧ P it.cnt ρ' S' := by
  have key : ∀ n i ρ S, i + n = it.cnt → P i ρ S → ∃ ρ' S', forF it f b n i ρ S = .fl (.nx ρ') S' ∧ P it.cnt ρ' S' := by
    intro n
    induction n with
    | zero =>
      intro i ρ S hi h
      have e : i = it.cnt := by omega
      subst e
      exact ⟨ρ, S, forF_nil (fin ρ S h), h⟩
    | succ n ih =>
      intro i ρ S hi h
      obtain ⟨d, ρ1, ρ2, S2, e1, e2, e3, e4⟩ := step i ρ S (by omega) h
      obtain ⟨ρ', S', e5, e6⟩ := ih (i + 1) ρ2 S2 (by omega) e4
      refine ⟨ρ', S', ?_, e6⟩
      rw [forF_cons e1 e2, e3]
      exact e5
  exact key it.cnt 0 ρ S (by omega) h0
/-- a loop that may end by a return, or by an exception -/
theorem for_inv' {it : ItD} {f : Ft} {b : Ms} (P : Nat → Env' → Sto → Prop) (R : RS → Prop) (step : ∀ i ρ S, i < it.cnt → P i ρ S → ∃ d ρ1, it.nx i S = some d ∧ f d ρ = some ρ1 ∧
      ((∃ ρ2 S2, b ρ1 S = .fl (.nx ρ2) S2 ∧ P (i + 1) ρ2 S2) ∨ ((∃ d S2, b ρ1 S = .fl (.rt d) S2) ∨ (∃ x ρ2 S2, b ρ1 S = .ex x ρ2 S2)) ∧ R (b ρ1 S)))
    (fin : ∀ ρ S, P it.cnt ρ S → it.fin S = true) {ρ : Env'} {S : Sto} (h0 : P 0 ρ S) : (∃ ρ' S', forF it f b it.cnt 0 ρ S = .fl (.nx ρ') S' ∧ P it.cnt ρ' S') ∨ (((∃ d S2, forF it f b it.cnt 0 ρ S = .fl (.rt d) S2) ∨ (∃ x ρ2 S2, forF it f b it.cnt 0 ρ S = .ex x ρ2 S2)) ∧ R (forF it f b it.cnt 0 ρ S)) := by
  have key : ∀ n i ρ S, i + n = it.cnt → P i ρ S → (∃ ρ' S', forF it f b n i ρ S = .fl (.nx ρ') S' ∧ P it.cnt ρ' S') ∨ (((∃ d S2, forF it f b n i ρ S = .fl (.rt d) S2) ∨ (∃ x ρ2 S2, forF it f b n i ρ S = .ex x ρ2 S2)) ∧ R (forF it f b n i ρ S)) := by
    intro n
    induction n with
    | zero =>
      intro i ρ S hi h
      have e : i = it.cnt := by omega
      subst e
      exact .inl ⟨ρ, S, forF_nil (fin ρ S h), h⟩
    | succ n ih =>
      intro i ρ S hi h
      obtain ⟨d, ρ1, e1, e2, e3⟩ := step i ρ S (by omega) h
      rw [forF_cons e1 e2]
      rcases e3 with ⟨ρ2, S2, e3, e4⟩ | ⟨⟨d2, S2, e3⟩ | ⟨x, ρ2, S2, e3⟩, e4⟩
      · rw [e3]
        exact ih (i + 1) ρ2 S2 (by omega) e4
      · rw [e3] at e4 ⊢
        exact .inr ⟨.inl ⟨_, _, rfl⟩, e4⟩
      · rw [e3] at e4 ⊢
        exact .inr ⟨.inr ⟨_, _, _, rfl⟩, e4⟩
  exact key it.cnt 0 ρ S (by omega) h0
theorem while_inv {c : Mb} {b : Ms} (P : Nat → Env' → Sto → Prop) (E : Env' → Sto → Prop) (step : ∀ n ρ S, P n ρ S → (∃ S1, c ρ S = .ok false S1 ∧ E ρ S1) ∨ ∃ S1 ρ2 S2 k, c ρ S = .ok true S1 ∧ b ρ S1 = .fl (.nx ρ2) S2 ∧ k < n ∧ P k ρ2 S2) :
    ∀ n ρ S, P n ρ S → ∃ ρ' S', sWhile c b ρ S = .fl (.nx ρ') S' ∧ E ρ' S' := by
  intro n
  induction n using Nat.strongRecOn with
  | _ n ih =>
    intro ρ S h
    rcases step n ρ S h with ⟨S1, e1, e2⟩ | ⟨S1, ρ2, S2, k, e1, e2, hk, e3⟩
    · exact ⟨ρ, S1, while_done e1, e2⟩
    · obtain ⟨ρ', S', e4, e5⟩ := ih k hk ρ2 S2 e3
      exact ⟨ρ', S', while_step e1 e2 e4 (by intro h; cases h), e5⟩
/-- [m for ..] by an invariant; the list stands at n -/
theorem lc_inv {it : ItD} {f : Ft} {mt : Mb} {m : Mx} {ρ : Env'} {n : Nat} (P : Nat → Sto → Prop) (step : ∀ i S, i < it.cnt → P i S → ∃ d ρ1, it.nx i S = some d ∧ f d ρ = some ρ1 ∧
      ((∃ S1, mt ρ1 S = .ok false S1 ∧ P (i + 1) S1) ∨ ∃ S1 y S2 acc, mt ρ1 S = .ok true S1 ∧ m ρ1 S1 = .ok y S2 ∧ S2[n]? = some (.lst acc) ∧ acc.length < 16777216 ∧ P (i + 1) (S2.set n (.lst (acc ++ [y])))))
    (fin : ∀ S, P it.cnt S → it.fin S = true) {S : Sto} (h0 : P 0 S) : ∃ S', lcF it f mt m ρ n it.cnt 0 S = .ok (.ref n) S' ∧ P it.cnt S' := by
  have key : ∀ k i S, i + k = it.cnt → P i S → ∃ S', lcF it f mt m ρ n k i S = .ok (.ref n) S' ∧ P it.cnt S' := by
    intro k
    induction k with
    | zero =>
      intro i S hi h
      have e : i = it.cnt := by omega
      subst e
      exact ⟨S, by rw [lcF, if_pos (fin S h)], h⟩
    | succ k ih =>
      intro i S hi h
      obtain ⟨d, ρ1, e1, e2, e3⟩ := step i S (by omega) h
      rw [lcF, e1]
      dsimp only
      rw [e2]
      dsimp only
      rcases e3 with ⟨S1, e3, e4⟩ | ⟨S1, y, S2, acc, e3, e4, e5, e6, e7⟩
      · rw [e3]
        exact ih (i + 1) S1 (by omega) e4
      · rw [e3]
        dsimp only
        rw [e4]
        dsimp only
        rw [e5]
        dsimp only
        rw [if_pos (show acc.length < sizeLine by rw [sizeLine_eq]; exact e6)]
        exact ih (i + 1) _ (by omega) e7
  exact key it.cnt 0 S (by omega) h0
end
theorem itL_nx {n c i : Nat} {S : Sto} {xs : List D} {d : D} (h : lstAt S n = some xs) (e : xs[i]? = some d) : (itL n c).nx i S = some d := by
  show (lstAt S n).bind (·[i]?) = some d
  rw [h]
  exact e
theorem itL_fin {n c : Nat} {S : Sto} {xs : List D} (h : lstAt S n = some xs) (hl : xs.length ≤ c) : (itL n c).fin S = true := by
  show (match lstAt S n with
    | some xs => decide (xs.length ≤ c)
    | none => false) = true
  rw [h]
  exact decide_eq_true hl
theorem ints_at {ns : List Int} {i : Nat} (h : i < ns.length) : (ns.map D.int)[i]? = some (.int ns[i]) := by
  rw [List.getElem?_map, List.getElem?_eq_getElem h]
  rfl
theorem set_mid {A B : Sto} {o u : Ob} : (A ++ [o] ++ B).set A.length u = A ++ [u] ++ B := by simp
theorem at_mid {A B : Sto} {o : Ob} : (A ++ [o] ++ B)[A.length]? = some o := by simp
/-! texts made of signs -/
theorem strsD_map : ∀ ys : List Str, strsD (ys.map D.str) = some ys
  | [] => rfl
  | y :: ys => by
    rw [List.map_cons, strsD, strsD_map ys]
    rfl
end Eng

set_option maxHeartbeats 2000000
/-! The engine, part 10: exceptions: raise, try. -/
namespace Eng
open PySem PySem.Spec PyProof.Rows L2
variable [TabCfg]
section
variable {X : Cx} {pins : List (Addr × Obj)} {σ : L2.St} {H : Hp} {s : Shared} {a : Addr} {o : HO}
/-- an object that stands there already comes to be tracked -/
theorem Inv.track (J : Inv X pins σ H s) (hn : H a = none) (nl : a ≠ X.env.locals) (nc : ∀ y c, X.env.cells.lookup y = some c → c ≠ a) (np : ∀ q ∈ X.pn ++ pins, q.1 ≠ a) (n0 : ∀ b u, X.s_0.heap.get? b = some u → b ≠ a) (new : ObjOk X.prog X.w (upd H a o) s.heap a o) : Inv X pins σ (upd H a o) s := by
  have old : ∀ {b : Addr} {u : HO}, H b = some u → b ≠ a := fun {b u} q z => by
    rw [z, hn] at q
    cases q
  refine ⟨J.ok, J.os, J.bare, ⟨J.base.keep, J.base.slot, ?_, J.base.there, ?_, ?_, ?_⟩, J.loc, J.cell, ?_, ?_, ?_, ?_, J.len⟩
  · intro b u q n hx
    rw [upd_ne (n0 b u q)]
    exact J.base.free b u q n hx
  · intro b xs q
    have := J.base.tups b xs q
    rw [upd_ne (old this)]
    exact this
  · intro b u v q
    have := J.base.frzs b u v q
    rw [upd_ne (old this)]
    exact this
  · intro b ps q
    obtain ⟨m, this⟩ := J.base.tbls b ps q
    exact ⟨m, by rw [upd_ne (old this)]; exact this⟩
  · rw [upd_ne (Ne.symm nl)]
    exact J.free
  · intro y c q
    rw [upd_ne (nc y c q)]
    exact J.freeC y c q
  · intro q hq
    obtain ⟨z1, z2, z3⟩ := J.pin q hq
    exact ⟨z1, by rw [upd_ne (np q hq)]; exact z2, z3⟩
  · intro b u q
    by_cases hb : b = a
    · subst hb
      rw [upd_same] at q
      cases q
      exact new
    · rw [upd_ne hb] at q
      exact (J.hok b u q).stay (fun _ _ _ z => z) (fun c z => by rw [upd_ne (old z)]; exact z) fun c xs z => by rw [upd_ne (old z)]; exact z
/-- into an except suite, the exception tracked -/
theorem Inv.toSuite (J : Inv X pins σ H s) (e : Addr) : Inv (X.suite e (X.pn ++ pins)) [] σ H s :=
  ⟨J.ok.suite _ _, J.os, J.bare, J.base, J.loc, J.cell, J.free, J.freeC, fun q hq => J.pin q (by rw [List.append_nil] at hq; exact hq), J.hok, J.len⟩
theorem Inv.fromSuite {e : Addr} {ps : List (Addr × Obj)} (J : Inv (X.suite e (X.pn ++ pins)) ps σ H s) (ok : X.Ok) : Inv X pins σ H s :=
  ⟨ok, J.os, J.bare, J.base, J.loc, J.cell, J.free, J.freeC, fun q hq => J.pin q (List.mem_append_left _ hq), J.hok, J.len⟩
theorem exoH_ok {P : Program} {w : World} {H : Hp} {h : Heap} {a : Addr} {cls : Value} {od : Option Addr} {oe : Obj} {vs : Array Value} (e : h.get? a = some oe) (z : Zc cls od oe) (d : oe.data = .fields vs) : ObjOk P w H h a (exoH a cls od) :=
  ⟨⟨oe, vs, e, z, d⟩, ⟨oe, e⟩, fun _ _ ⟨u, v, q, r⟩ k => ⟨u, v, k u q, r⟩⟩
end
/-- a clause: the class that it names, the slot of its name, its suite -/
abbrev Cl := Value × Option Nat × TS
def inSlot (j : Option Nat) (v : Option V) (σ : L2.St) : L2.St := match j with
  | none => σ
  | some i => σ.set i v
/-- what the clauses wish of an exception of the body -/
def wCl (K : PySem.W.Frag) (Wout : WX) (D : Ends) : List Cl → WX
  | [] => Wout
  | (c, j, ts) :: r => fun cls d σ H => ∃ b, PySem.W.exmOne K cls c = some b ∧
      (b = true → ∀ a, H a = none → ts { nx := fun σ' H' => D.nx (inSlot j none σ') H', rt := D.rt, bk := fun σ' H' => D.bk (inSlot j none σ') H', ct := fun σ' H' => D.ct (inSlot j none σ') H' } (inSlot j (some (.ref a)) σ) (upd H a (exoH a cls d))) ∧
      (b = false → wCl K Wout D r cls d σ H)
inductive HdsG (X : Cx) : List ExceptHandler → List Cl → Prop
  | nil : HdsG X [] []
  | bare {x : Str} {c : Value} {ts : TS} {st : Stmt} {sts : List Stmt} {np hp : Pos} {hds : List ExceptHandler} {l : List Cl} (hc : Names X x c) (hsu : ∀ (a : Addr) (pn : List (Addr × Obj)), PSs (X.suite a pn) (st :: sts) ts) (r : HdsG X hds l) :
      HdsG X (.ExceptHandler (some (.Name x np)) none (st :: sts) hp :: hds) ((c, none, ts) :: l)
  | named {x n : Str} {i : Nat} {c : Value} {ts : TS} {st : Stmt} {sts : List Stmt} {np hp : Pos} {hds : List ExceptHandler} {l : List Cl} (hc : Names X x c) (hi : X.N[i]? = some n) (hk : X.env.kindOf n = some .local) (hsu : ∀ (a : Addr) (pn : List (Addr × Obj)), PSs (X.suite a pn) (st :: sts) ts) (r : HdsG X hds l) :
      HdsG X (.ExceptHandler (some (.Name x np)) (some n) (st :: sts) hp :: hds) ((c, some i, ts) :: l)
section
variable {X : Cx} {body orelse : List Stmt} {h₀ : ExceptHandler} {hds : List ExceptHandler} {l : List Cl} {pos : Pos} {tb : WX → TS} {u : TS} {Wout : WX}
theorem ps_try_gen (hs : X.stack = X.env :: X.outer) (hf : X.env.frame = some X.env.locals) (hN : X.N.Nodup) (hex : X.ex = []) (tk : Takes X Wout)
    (hb : ∀ (W : WX) (pn : List (Addr × Obj)) (xe : Value → Shared → Prop), Takes (X.tr pn xe) W → PassesOwn (model X.prog X.w) X.A X.env xe → PSs (X.tr pn xe) body (tb W))
    (ho : PSs X orelse u) (hh : HdsG X (h₀ :: hds) l) : PS X (.Try body (h₀ :: hds) orelse [] pos) (fun D σ H => tb (wCl X.K Wout D l) { D with nx := u D } σ H) := by
  refine ⟨fun pins s σ H D I start => ?_⟩
  have okX := I.ok
  have frX : X.A.frames = some (X.env :: X.outer) := okX.frames.trans (congrArg some hs)
  refine wpAny_Try_except ?_
  have caught : ∀ (xe2 : Value → Shared → Prop) (e : Value) (s1 : Shared), XE (X.tr (X.pn ++ pins) xe2) (wCl X.K Wout D l) e s1 → wpAny (model X.prog X.w) X.A (noteFrame e X.env) (fun _ s2 => wpAny (model X.prog X.w) X.A (setFlight e none) (fun _ s3 =>
      wpAny (model X.prog X.w) X.A (handleBy e X.env (h₀ :: hds)) (SP X pins D) X.xe s3) X.xe s2) X.xe s1 := by
    intro xe2 e s1 air
    obtain ⟨a, G, sI, ps1, σ1, H1, cls, d, rfl, J1, nb, up, sky, na, os, bare, wish⟩ := air
    have J : Inv X pins σ1 H1 sI := J1.ofTry okX
    rw [show (X.tr (X.pn ++ pins) xe2).stack = X.env :: X.outer from hs] at sky
    refine Sky.land Zc.steady frX hf sky fun g1 fl1 up1 => ?_
    have K1 : Inv X pins σ1 H1 { s1 with heap := g1 } := J.landed nb fl1.1 (up.trans up1) os bare
    obtain ⟨ob1, vs1, at1, zc1, fd1⟩ := fl1.there
    have outOfFr : ∀ {h : Heap} {ob : Obj} {vs : Array Value}, h.FunFrames G (X.env :: X.outer) → h.get? a = some ob → ob.data = .fields vs → a ∉ frs (X.env :: X.outer) := fun {h ob vs} ff q dd hm => by
      obtain ⟨_, w1, w2, w3⟩ := ff.mem hm
      rw [q] at w2
      cases w2
      exact w3 _ dd
    have nfr := outOfFr fl1.2.2.1 at1 fd1
    have nl : a ≠ X.env.locals := fun z => nfr (List.mem_filterMap.mpr ⟨X.env, List.mem_cons_self, by rw [hf, z]⟩)
    -- all that stood in sI is another object
    have other : ∀ b u, sI.heap.get? b = some u → b ≠ a := fun b u q z => by
      subst z
      by_cases hm : b ∈ frs X.stack
      · rw [hs] at hm
        exact nfr hm
      · have z1 := nb b u q hm
        have z2 : G.get? b = none := fl1.2.1
        rw [z1] at z2
        cases z2
    have npn : ∀ q ∈ X.pn ++ pins, q.1 ≠ a := fun q hq => other _ _ (J.pin q hq).1
    have ncl : ∀ y c, X.env.cells.lookup y = some c → c ≠ a := fun y c q => by
      obtain ⟨v, ob, z, _⟩ := J.cell y c q
      exact other _ _ z
    have ns0 : ∀ b u, X.s_0.heap.get? b = some u → b ≠ a := fun b u q => by
      obtain ⟨u', z⟩ := J.base.there b u q (by rw [hex]; exact fun z => nomatch z)
      exact other _ _ z
    have nF : a ∉ X.fs := fun hm => by
      obtain ⟨en, he, q⟩ := List.mem_filterMap.mp hm
      exact nfr (List.mem_filterMap.mpr ⟨en, List.mem_cons_of_mem _ he, q⟩)
    have S1 := K1.suite at1 fd1 na nl nF
    have clauses : ∀ {hd2 : List ExceptHandler} {l2 : List Cl}, HdsG X hd2 l2 → wCl X.K Wout D l2 cls d σ1 H1 → wpAny (model X.prog X.w) X.A (handleBy (.ref a) X.env hd2) (SP X pins D) X.xe { s1 with heap := g1 } := by
      intro hd2 l2 hk
      have LT : PySem.W.Looks (model X.prog X.w) g1 (typeOf (.ref a)) cls := fun A2 Q2 E2 s2 k q => wpAny_typeOf_ref (k _ _ at1) (by rw [zc1.1]; exact q)
      have test : ∀ {x : Str} {c : Value} {np : Pos}, Names X x c → ∀ {Q2 : Value → Shared → Prop} {E2 : Value → Shared → Prop}, Q2 c { s1 with heap := g1 } → wpAny (model X.prog X.w) (X.A.mark (some (.ref a))) (eval (.Name x np) X.env) Q2 E2 { s1 with heap := g1 } := by
        intro x c np hc Q2 E2 q
        obtain ⟨hg, hdb, hm | ⟨hm, hv, hnn⟩⟩ := hc
        · exact ld_glob (X := X.suite a ((a, ob1) :: (X.pn ++ pins))) S1 hg hm q hdb
        · exact ld_blt (X := X.suite a ((a, ob1) :: (X.pn ++ pins))) S1 hg hm hv q hnn hdb
      induction hk with
      | nil =>
        intro w
        refine wpAny_handleBy_nil ?_
        obtain ⟨f1, f2, f3, ob, vs, T, oT, ts2, z1, z2, z3, z4, z5⟩ := id fl1
        unfold PySem.passOn
        refine wpAny_bind (wpAny_field z1 z3 z4 ?_)
        rw [if_neg (by simp : ¬ ((Value.ref T == Value.none) = true))]
        have on : wpAny (model X.prog X.w) X.A (setFlight (.ref a) X.env.frame) (fun _ s4 => wpAny (model X.prog X.w) X.A (throw (.ref a) : Sem Flow) (SP X pins D) X.xe s4) X.xe { s1 with heap := g1 } := by
          rw [hf]
          refine HandSPX.setFlight_upZ fl1 fun g2 held up2 => wpAny_throw (tk _ _ ?_)
          exact ⟨a, G, sI, pins, σ1, H1, cls, d, rfl, J, nb, (up.trans up1).trans up2, .inr (.inr (by rw [hs]; exact held)), na, os, bare, w⟩
        first
          | exact wpAny_bind (wpAny_pure (wpAny_bind on))
          | exact wpAny_bind on
      | @bare x c ts st sts np hp hds2 l2 hc hsu r ih =>
        intro w
        obtain ⟨b, hb1, yes, no⟩ := w
        refine wpAny_handleBy_cons (codeAny_handlers_test ?_) (by intro q; cases q)
        refine test hc ((PySem.W.exm_one (M := model X.prog X.w) K1.kIn LT hb1).here ?_)
        cases b with
        | false => exact ih (no rfl)
        | true =>
          refine codeAny_handlers_suite ?_
          refine HandSPX.lands_againZ fl1 fun g2 fl2 up2 => ?_
          have K2 : Inv X pins σ1 H1 { s1 with heap := g2 } := J.landed nb fl2.1 ((up.trans up1).trans up2) os bare
          obtain ⟨ob2, vs2, at2, zc2, fd2⟩ := fl2.there
          have K3 := Eng.Inv.toSuite (Inv.track (o := exoH a cls d) K2 na nl ncl npn ns0 (exoH_ok at2 zc2 fd2)) a
          refine wpAny_mono ((hsu a (X.pn ++ pins)).run [] _ σ1 _ _ K3 (yes rfl a na)) (fun f s6 hsp => ?_) (fun _ _ z => False.elim z)
          cases f with
          | ret v6 =>
            obtain ⟨y6, σ6, H6, J6, r6, q6⟩ := hsp
            exact ⟨_, _, _, Eng.Inv.fromSuite J6 okX, r6, q6⟩
          | next =>
            obtain ⟨σ6, H6, J6, q6⟩ := hsp
            exact ⟨_, _, Eng.Inv.fromSuite J6 okX, q6⟩
          | brk =>
            obtain ⟨σ6, H6, J6, q6⟩ := hsp
            exact ⟨_, _, Eng.Inv.fromSuite J6 okX, q6⟩
          | cont =>
            obtain ⟨σ6, H6, J6, q6⟩ := hsp
            exact ⟨_, _, Eng.Inv.fromSuite J6 okX, q6⟩
      | @named x n i c ts st sts np hp hds2 l2 hc hi hkd hsu r ih =>
        intro w
        obtain ⟨b, hb1, yes, no⟩ := w
        refine wpAny_handleBy_cons (codeAny_handlers_test ?_) (by intro q; cases q)
        refine test hc ((PySem.W.exm_one (M := model X.prog X.w) K1.kIn LT hb1).here ?_)
        cases b with
        | false => exact ih (no rfl)
        | true =>
          refine codeAny_handlers_suite_as ?_
          refine HandSPX.lands_againZ fl1 fun g2 fl2 up2 => ?_
          have K2 : Inv X pins σ1 H1 { s1 with heap := g2 } := J.landed nb fl2.1 ((up.trans up1).trans up2) os bare
          obtain ⟨ob2, vs2, at2, zc2, fd2⟩ := fl2.there
          have K3 := Eng.Inv.toSuite (Inv.track (o := exoH a cls d) K2 na nl ncl npn ns0 (exoH_ok at2 zc2 fd2)) a
          refine store_ok (X := X.suite a (X.pn ++ pins)) (v := .ref a) K3 hN hi (.inl hkd) rfl (fun s5 K5 => ?_) (.inr hkd)
          refine wpAny_mono ((hsu a (X.pn ++ pins)).run [] s5 _ _ _ K5 (yes rfl a na)) (fun f s6 hsp => ?_) (fun _ _ z => False.elim z)
          have gone : ∀ {σ6 : L2.St} {H6 : Hp} {Q6 : Shared → Prop}, Inv (X.suite a (X.pn ++ pins)) [] σ6 H6 s6 → (∀ s7, Inv X pins (σ6.set i none) H6 s7 → Q6 s7) →
              wpAny (model X.prog X.w) X.A (do bindName X.env n .none; unbindBehindTheSuite X.env n hp) (fun _ s7 => Q6 s7) X.xe s6 := fun {σ6 H6 Q6} K6 hq => gone_ok (Eng.Inv.fromSuite K6 okX) hN hi hkd hq
          cases f with
          | ret v6 =>
            obtain ⟨y6, σ6, H6, J6, r6, q6⟩ := hsp
            exact gone J6 fun s7 J7 => ⟨_, _, _, J7, r6, q6⟩
          | next =>
            obtain ⟨σ6, H6, J6, q6⟩ := hsp
            exact gone J6 fun s7 J7 => ⟨_, _, J7, q6⟩
          | brk =>
            obtain ⟨σ6, H6, J6, q6⟩ := hsp
            exact gone J6 fun s7 J7 => ⟨_, _, J7, q6⟩
          | cont =>
            obtain ⟨σ6, H6, J6, q6⟩ := hsp
            exact gone J6 fun s7 J7 => ⟨_, _, J7, q6⟩
    exact clauses hh wish
  refine wpAny_mono ((hb (wCl X.K Wout D l) (X.pn ++ pins) (fun e s1 => wpAny (model X.prog X.w) X.A (noteFrame e X.env) (fun _ s2 => wpAny (model X.prog X.w) X.A (setFlight e none) (fun _ s3 =>
    wpAny (model X.prog X.w) X.A (handleBy e X.env (h₀ :: hds)) (SP X pins D) X.xe s3) X.xe s2) X.xe s1) (fun e s1 air => caught _ e s1 air) PassesOwn.looking).run [] s σ H { D with nx := u D } (I.toTry _) start) (fun f s1 hsp => ?_) (fun e s1 he => he)
  · cases f with
    | next =>
      obtain ⟨σ1, H1, J1, q⟩ := hsp
      exact ho.run pins s1 σ1 H1 D (J1.ofTry okX) q
    | ret v1 =>
      obtain ⟨v, σ1, H1, J1, r, q⟩ := hsp
      exact ⟨v, σ1, H1, J1.ofTry okX, r, q⟩
    | brk =>
      obtain ⟨σ1, H1, J1, q⟩ := hsp
      exact ⟨σ1, H1, J1.ofTry okX, q⟩
    | cont =>
      obtain ⟨σ1, H1, J1, q⟩ := hsp
      exact ⟨σ1, H1, J1.ofTry okX, q⟩
end
end Eng

set_option maxHeartbeats 2000000
/-! The engine, part 11: raise, try, isinstance of what was caught. -/
namespace Eng
open PySem PySem.Spec PyProof.Rows L2
variable [TabCfg]
/-- which class is below which -/
abbrev IsaT := Str → Str → Option Bool
/-- the table is what the written part says -/
structure IsaOk (K : PySem.W.Frag) (mg : Str → Option Value) (isa : IsaT) (isaT : Str → String → Option Bool) : Prop where
  exm : ∀ y c b Cy Cc, isa y c = some b → mg y = some (.ref Cy) → mg c = some (.ref Cc) → PySem.W.exmOne K (.ref Cy) (.ref Cc) = some b
  kit : ∀ y c b Cy Cc, isa y c = some b → mg y = some (.ref Cy) → mg c = some (.ref Cc) → PySem.W.kitOne K (.ref Cy) (.ref Cc) = some b
  kitT : ∀ y (n : String) b Cy, isaT y n = some b → mg y = some (.ref Cy) → PySem.W.kitOne K (.ref Cy) (.type n) = some b
  exc : ∀ y c b Cy, isa y c = some b → mg y = some (.ref Cy) → ExcC K Cy
  excT : ∀ y n b Cy, isaT y n = some b → mg y = some (.ref Cy) → ExcC K Cy
/-! ### raise -/
abbrev Mk' := Env' → Sto → R Exn
def tMK (K : PySem.W.Frag) (mg : Str → Option Value) (W : WX) (m : Mk') : L2.St → Hp → XK → Prop := fun σ H Q => ∃ β S ρ, Rl K mg β H S ∧ En K mg β H ρ σ ∧ Po K mg W σ β H (m ρ S) fun x β' _ H' => ∀ cls od, Xd K mg β' H' cls od x → Q cls od H'
structure MK (X : Cx) (W : WX) (e : Expr) (m : Mk') : Prop where
  made : PMk X e (tMK X.K X.mg W m)
def sRaise (m : Mk') : Ms := fun ρ S => (m ρ S).st ρ fun x S1 => .ex x ρ S1
def mK0 (c : Str) : Mk' := fun _ S => .ok ⟨c, []⟩ S
section
variable {X : Cx} {W : WX} {pos p : Pos} {e : Expr}
theorem ms_raise {m : Mk'} (tk : Takes X W) (h : MK X W e m) (hc : X.calm = true := by rfl) : MS X W (.Raise (some e) none pos) (sRaise m) := by
  refine ⟨PS.weak (ps_raise hc tk h.made) fun D σ H ⟨β, S, ρ, rl, en, q⟩ => ⟨β, S, ρ, rl, en, (PoS.st q en).mono fun x β1 S1 H1 x1 r1 q1 cls od xd => ?_⟩⟩
  exact q1 cls od β1 H1 σ .refl r1 (en.ext x1) xd
/-- C(): a class of exceptions without an own __init__ -/
theorem mk_none {x : Str} {C : Addr} {bmB : List Value} {B newId initId : String} (F : ExcBaseFacts B newId initId bmB) (q : PySem.W.excIn X.K C bmB newId = true) (gC : X.mg x = some (.ref C)) (kC : PySem.W.keepIn X.K (.ref C) = true) (r : Raises X (.ref C)) (hg : Gl X x := by rfl)
    (hdb : (x == ("__debug__" : Str)) = false := by decide) : MK X W (.Call (.Name x p) [] [] pos) (mK0 x) := by
  refine ⟨fun pins s σ H Q I ⟨β, S, ρ, rl, en, w⟩ => ?_⟩
  refine wpAny_Call_Name_kw (ld_glob I hg gC ?_ hdb)
  refine PySem.W.callWith_K0 I.kIn kC ?_
  obtain ⟨bm, N, nm, qn, bs, hdct, sn, sub, ab, col, dd, k0, k1, k2, k3, k5, mN, hC, hN, hni, T⟩ := exc_obj I.kIn q
  refine wpAny_call_exc_subT F T hC hN hni (fun h' e' made => ?_) (by show 0 ≤ sizeLine; exact Nat.zero_le _)
  exact mk_of I made r (w β H .refl rl _ _ ⟨C, gC, rfl, .inl ⟨rfl, rfl⟩⟩) (I.hok.gone made.new)
end
/-! ### try -/
abbrev Hd := Str × Option Nat × Ms
def slotD (j : Option Nat) (o : Option D) (ρ : Env') : Env' := match j with
  | none => ρ
  | some i => ρ.set i o
/-- behind a suite -/
def behind (j : Option Nat) : RS → RS
  | .fl (.nx ρ) S => .fl (.nx (slotD j none ρ)) S
  | .fl (.rt d) S => .fl (.rt d) S
  | _ => .stuck
def hRun (isa : IsaT) : List Hd → Exn → Env' → Sto → RS
  | [], x, ρ, S => .ex x ρ S
  | (c, j, m) :: r, x, ρ, S => match isa x.cls c with
    | some true => behind j (m (slotD j (some (.ref S.length)) ρ) (S ++ [.exn x.cls x.fs]))
    | some false => hRun isa r x ρ S
    | none => .stuck
def sTry (isa : IsaT) (b : Ms) (hs : List Hd) (els : Ms) : Ms := fun ρ S => match b ρ S with
  | .fl (.nx ρ1) S1 => els ρ1 S1
  | .ex x ρ1 S1 => hRun isa hs x ρ1 S1
  | r => r
theorem En.unset {K : PySem.W.Frag} {mg : Str → Option Value} {β : List Addr} {H : Hp} {ρ : Env'} {σ : L2.St} (e : En K mg β H ρ σ) (i : Nat) : En K mg β H (ρ.set i none) (σ.set i none) := by
  refine ⟨by rw [List.length_set, List.length_set]; exact e.len, fun j d q => ?_⟩
  by_cases hj : i = j
  · subst hj
    by_cases hl : i < ρ.length
    · rw [List.getElem?_set_self hl] at q
      cases q
    · rw [List.getElem?_eq_none (by rw [List.length_set]; omega)] at q
      cases q
  · rw [List.getElem?_set_ne hj] at q ⊢
    exact e.at' j d q
section
variable {X : Cx} {W : WX} {pos : Pos} {isa : IsaT} {isaT : Str → String → Option Bool}
structure HdE (X : Cx) (W : WX) (isa : IsaT) (hds : List ExceptHandler) (hs : List Hd) : Prop where
  run : ∃ l, HdsG X hds l ∧ ∀ (D : Ends) (x : Exn) (ρ : Env') (S : Sto) (cls : Value) (od : Option Addr) (β : List Addr) (H : Hp) (σ : L2.St), Rl X.K X.mg β H S → En X.K X.mg β H ρ σ → Xd X.K X.mg β H cls od x → PoS X.K X.mg W β H (hRun isa hs x ρ S) D → wCl X.K W D l cls od σ H
theorem hde_nil : HdE X W isa [] [] := ⟨[], .nil, fun D x ρ S cls od β H σ rl en xd q => q cls od β H σ .refl rl en xd⟩
theorem suite_in {D : Ends} {x : Exn} {ρ : Env'} {S : Sto} {od : Option Addr} {β : List Addr} {H : Hp} {σ : L2.St} {a C : Addr} {j : Option Nat} {m : Ms} (rl : Rl X.K X.mg β H S) (en : En X.K X.mg β H ρ σ) (hC : X.mg x.cls = some (.ref C)) (hf : Fx X.K X.mg β H od x.fs) (na : H a = none)
    (q : PoS X.K X.mg W β H (behind j (m (slotD j (some (.ref S.length)) ρ) (S ++ [.exn x.cls x.fs]))) D) :
    tMS X.K X.mg W0 m { nx := fun σ' H' => D.nx (inSlot j none σ') H', rt := D.rt, bk := fun σ' H' => D.bk (inSlot j none σ') H', ct := fun σ' H' => D.ct (inSlot j none σ') H' } (inSlot j (some (.ref a)) σ) (upd H a (exoH a (.ref C) od)) := by
  have x1 : Xt X.K β H (β ++ [a]) (upd H a (exoH a (.ref C) od)) := xt_new na
  have r1 : Rl X.K X.mg (β ++ [a]) (upd H a (exoH a (.ref C) od)) (S ++ [.exn x.cls x.fs]) := rl.new na ⟨C, od, hC, upd_same, hf.ext x1⟩
  have hat : (β ++ [a])[S.length]? = some a := by
    rw [← rl.len, List.getElem?_append_right (Nat.le_refl _), Nat.sub_self]
    rfl
  have e1 : En X.K X.mg (β ++ [a]) (upd H a (exoH a (.ref C) od)) (slotD j (some (.ref S.length)) ρ) (inSlot j (some (.ref a)) σ) := by
    cases j with
    | none => exact en.ext x1
    | some i => exact (en.ext x1).set i (.ref hat)
  refine ⟨_, _, _, r1, e1, ?_⟩
  cases h : m (slotD j (some (.ref S.length)) ρ) (S ++ [.exn x.cls x.fs]) with
  | fl f S2 =>
    rw [h] at q
    cases f with
    | nx ρ2 =>
      intro β2 H2 σ2 x2 r2 e2
      refine q β2 H2 _ (x1.trans x2) r2 ?_
      cases j with
      | none => exact e2
      | some i => exact e2.unset i
    | rt d => exact fun β2 H2 v x2 r2 hv => q β2 H2 v (x1.trans x2) r2 hv
  | ex z ρ2 S2 => rw [h] at q; exact q.elim
  | stuck => rw [h] at q; exact q.elim
theorem hde_bare {c : Str} {C : Addr} {m : Ms} {st : Stmt} {sts : List Stmt} {np hp : Pos} {hds : List ExceptHandler} {hs : List Hd} (T : IsaOk X.K X.mg isa isaT) (hm : X.mg c = some (.ref C)) (hsu : ∀ (a : Addr) (pn : List (Addr × Obj)), MSs (X.suite a pn) W0 (st :: sts) m) (r : HdE X W isa hds hs)
    (hg : Gl X c := by rfl) (hdb : (c == ("__debug__" : Str)) = false := by decide) : HdE X W isa (.ExceptHandler (some (.Name c np)) none (st :: sts) hp :: hds) ((c, none, m) :: hs) := by
  obtain ⟨l, h1, h2⟩ := r
  refine ⟨_, .bare (ts := tMS X.K X.mg W0 m) ⟨hg, hdb, .inl hm⟩ (fun a pn => (hsu a pn).ps) h1, fun D x ρ S cls od β H σ rl en xd q => ?_⟩
  unfold hRun at q
  obtain ⟨Cy, hy, rfl, hf⟩ := id xd
  cases e : isa x.cls c with
  | none => rw [e] at q; exact q.elim
  | some b =>
    refine ⟨b, T.exm _ _ _ _ _ e hy hm, fun eb a na => ?_, fun eb => ?_⟩
    · subst eb
      rw [e] at q
      exact suite_in (j := none) rl en hy hf na q
    · subst eb
      rw [e] at q
      exact h2 D x ρ S _ od β H σ rl en xd q
theorem hde_named {c n : Str} {i : Nat} {C : Addr} {m : Ms} {st : Stmt} {sts : List Stmt} {np hp : Pos} {hds : List ExceptHandler} {hs : List Hd} (T : IsaOk X.K X.mg isa isaT) (hm : X.mg c = some (.ref C)) (hsu : ∀ (a : Addr) (pn : List (Addr × Obj)), MSs (X.suite a pn) W0 (st :: sts) m) (r : HdE X W isa hds hs)
    (hi : X.N[i]? = some n := by rfl) (hk : X.env.kindOf n = some .local := by rfl) (hg : Gl X c := by rfl) (hdb : (c == ("__debug__" : Str)) = false := by decide) : HdE X W isa (.ExceptHandler (some (.Name c np)) (some n) (st :: sts) hp :: hds) ((c, some i, m) :: hs) := by
  obtain ⟨l, h1, h2⟩ := r
  refine ⟨_, .named (ts := tMS X.K X.mg W0 m) ⟨hg, hdb, .inl hm⟩ hi hk (fun a pn => (hsu a pn).ps) h1, fun D x ρ S cls od β H σ rl en xd q => ?_⟩
  unfold hRun at q
  obtain ⟨Cy, hy, rfl, hf⟩ := id xd
  cases e : isa x.cls c with
  | none => rw [e] at q; exact q.elim
  | some b =>
    refine ⟨b, T.exm _ _ _ _ _ e hy hm, fun eb a na => ?_, fun eb => ?_⟩
    · subst eb
      rw [e] at q
      exact suite_in (j := some i) rl en hy hf na q
    · subst eb
      rw [e] at q
      exact h2 D x ρ S _ od β H σ rl en xd q
theorem ms_try {body orelse : List Stmt} {h₀ : ExceptHandler} {hds : List ExceptHandler} {hs : List Hd} {mb me : Ms} (hN : X.N.Nodup) (tk : Takes X W)
    (hb : ∀ (W2 : WX) (pn : List (Addr × Obj)) (xe : Value → Shared → Prop), Takes (X.tr pn xe) W2 → PassesOwn (model X.prog X.w) X.A X.env xe → MSs (X.tr pn xe) W2 body mb) (he : MSs X W orelse me) (hh : HdE X W isa (h₀ :: hds) hs)
    (hst : X.stack = X.env :: X.outer := by rfl) (hf : X.env.frame = some X.env.locals := by rfl) (hex : X.ex = [] := by rfl) : MS X W (.Try body (h₀ :: hds) orelse [] pos) (sTry isa mb hs me) := by
  obtain ⟨l, h1, h2⟩ := hh
  refine ⟨PS.weak (ps_try_gen (tb := fun W2 => tMS X.K X.mg W2 mb) hst hf hN hex tk (fun W2 pn xe t2 p2 => (hb W2 pn xe t2 p2).ps) he.ps h1) fun D σ H ⟨β, S, ρ, rl, en, q⟩ => ⟨β, S, ρ, rl, en, ?_⟩⟩
  unfold sTry at q
  cases e : mb ρ S with
  | fl f S1 =>
    rw [e] at q
    cases f with
    | nx ρ1 => exact fun β1 H1 σ1 x1 r1 e1 => ⟨β1, S1, ρ1, r1, e1, PoS.xt q x1⟩
    | rt d => exact q
  | ex x ρ1 S1 =>
    rw [e] at q
    exact fun cls od β1 H1 σ1 x1 r1 e1 xd => h2 D x ρ1 S1 cls od β1 H1 σ1 r1 e1 xd (PoS.xt q x1)
  | stuck => rw [e] at q; exact q.elim
end
/-! ### isinstance(e, C), e an exception that was caught -/
def rIsX (K : PySem.W.Frag) : List V → Hp → VK → Prop := fun xs H Q => ∃ (a C : Addr) (c : V) (cv : Value) (b : Bool), xs = [.ref a, c] ∧ H a = some (exoH a (.ref C) none) ∧ ExcC K C ∧ (∀ u, RelV c u → u = cv) ∧ PySem.W.kitOne K (.ref C) cv = some b ∧ Q (.bl b) H
theorem call_isX {X : Cx} : CallR X (.builtin "isinstance") (rIsX X.K) := by
  intro pins s σ H xs us Q I r h
  obtain ⟨a, C, c, cv, b, rfl, ha, T, hcv, e, q⟩ := h
  cases r with
  | cons rx rr =>
    cases rr with
    | cons rt rr =>
      cases rr
      cases rx
      have ec := hcv _ rt
      subst ec
      have z : ObjOk X.prog X.w H s.heap a (.ext fun h => ∃ (oe : Obj) (vs : Array Value), h.get? a = some oe ∧ Zc (.ref C) none oe ∧ oe.data = .fields vs) := I.hok a _ ha
      obtain ⟨⟨oe, vs, hget, ⟨z1, z2⟩, hd⟩, _⟩ := z
      have J : PySem.W.InstAt s.heap a oe C none := by
        obtain ⟨oc, od, oda, osl⟩ := oe
        dsimp only at z1 z2 hd
        subst z1 z2 hd
        exact ⟨hget, rfl, rfl, trivial⟩
      exact PySem.W.kia_one (PySem.W.handS_kitx_exc T.hg T.hk T.hs T.hd T.ha T.hn T.ht T.hm) I.kIn J e (fun z => nomatch z) fun tk => ⟨.bl b, H, I.kept (t' := tk) fun _ _ z => z, rfl, q⟩
def fIsX (isa : IsaT) (isaT : Str → String → Option Bool) : FA
  | [.ref n, .gl c], S => match S[n]? with
    | some (.exn y []) => (isa y c).map fun b => (.bl b, S)
    | _ => none
  | [.ref n, .ty c], S => match S[n]? with
    | some (.exn y []) => (isaT y c).map fun b => (.bl b, S)
    | _ => fIsi [.ref n, .ty c] S
  | ds, S => fIsi ds S
section
variable {X : Cx} {W : WX} {pos p : Pos} {isa : IsaT} {isaT : Str → String → Option Bool}
theorem o_isX (T : IsaOk X.K X.mg isa isaT) : OpA X (fun xs H Q => rIsX X.K xs H Q ∨ rIsi X.K xs H Q) (fIsX isa isaT) := by
  intro β H S xs vs d S' Q r hv e k
  have base : fIsi xs S = some (d, S') → rIsX X.K vs H Q ∨ rIsi X.K vs H Q := fun e => .inr (o_isi β H S xs vs d S' Q r hv e k)
  have bare : ∀ {n : Nat} {y : Str} {v : V}, Vd X.K X.mg β H v (.ref n) → S[n]? = some (.exn y []) → ∃ a Ca, v = .ref a ∧ X.mg y = some (.ref Ca) ∧ H a = some (exoH a (.ref Ca) none) := by
    intro n y v h1 q
    obtain ⟨a, rfl, h3⟩ := h1.ref_inv
    obtain ⟨Ca, od, h4, h5, h6⟩ := r.at' n a _ h3 q
    rcases h6 with ⟨_, rfl⟩ | ⟨_, _, _, h8, _⟩
    · exact ⟨a, Ca, rfl, h4, h5⟩
    · exact absurd rfl h8
  unfold fIsX at e
  split at e
  · rename_i n c
    obtain ⟨v, w, rfl, h1, h2⟩ := hv.two
    split at e
    · rename_i y q
      cases q2 : isa y c with
      | none => rw [q2] at e; cases e
      | some b =>
        rw [q2] at e
        cases e
        obtain ⟨a, Ca, rfl, h4, h5⟩ := bare h1 q
        cases h2 with
        | gl h7 => exact .inl ⟨a, Ca, _, _, b, rfl, h5, T.exc _ _ _ _ q2 h4, fun u ru => ru, T.kit _ _ _ _ _ q2 h4 h7, k β H _ .refl r (.bl b)⟩
    · cases e
  · rename_i n c
    obtain ⟨v, w, rfl, h1, h2⟩ := hv.two
    split at e
    · rename_i y q
      cases q2 : isaT y c with
      | none => rw [q2] at e; cases e
      | some b =>
        rw [q2] at e
        cases e
        obtain ⟨a, Ca, rfl, h4, h5⟩ := bare h1 q
        cases h2 with
        | ty => exact .inl ⟨a, Ca, _, _, b, rfl, h5, T.excT _ _ _ _ q2 h4, fun u ru => ru, T.kitT _ _ _ _ q2 h4, k β H _ .refl r (.bl b)⟩
    · exact base e
  · exact base e
theorem me_isx {e c : Expr} {m mc : Mx} (T : IsaOk X.K X.mg isa isaT) (hm : X.mg "isinstance" = none) (ha : ME X W e m) (hc : ME X W c mc) (hg : Gl X "isinstance" := by rfl) (hs : starEach [e, c] X.env = [(false, eval e X.env), (false, eval c X.env)] := by rfl) (hs2 : starEach [c] X.env = [(false, eval c X.env)] := by rfl) :
    ME X W (.Call (.Name "isinstance" p) [e, c] [] pos) (mCB (fIsX isa isaT) (mCons m (mCons mc mNil))) :=
  me_cb (CallR.or call_isX call_isi) (o_isX T) (ma_cons ha (ma_cons hc ma_nil hs2) (by rw [hs, hs2])) hm (by decide +kernel) hg (by decide) (by decide) (by rw [hs, hs2]) (by rw [hs2]; rfl)
end
/-! rows for simp -/
section
variable {ρ : Env'} {S : Sto} {m : Mk'} {c : Str} {isa : IsaT} {isaT : Str → String → Option Bool} {b els : Ms} {hs : List Hd} {x : Exn} {n : Nat} {y : Str}
@[simp] theorem ev_raise : sRaise m ρ S = (m ρ S).st ρ fun x S1 => .ex x ρ S1 := nr rfl
@[simp] theorem ev_mk0 : mK0 c ρ S = .ok ⟨c, []⟩ S := nr rfl
@[simp] theorem ev_try : sTry isa b hs els ρ S = match b ρ S with
  | .fl (.nx ρ1) S1 => els ρ1 S1
  | .ex x ρ1 S1 => hRun isa hs x ρ1 S1
  | r => r := nr rfl
@[simp] theorem ev_hnil : hRun isa [] x ρ S = .ex x ρ S := nr rfl
@[simp] theorem ev_hcons {j : Option Nat} {m : Ms} {r : List Hd} : hRun isa ((c, j, m) :: r) x ρ S = match isa x.cls c with
    | some true => behind j (m (slotD j (some (.ref S.length)) ρ) (S ++ [.exn x.cls x.fs]))
    | some false => hRun isa r x ρ S
    | none => .stuck := nr rfl
@[simp] theorem ev_beh0 {j : Option Nat} : behind j (.fl (.nx ρ) S) = .fl (.nx (slotD j none ρ)) S := nr rfl
@[simp] theorem ev_beh1 {j : Option Nat} {d : D} : behind j (.fl (.rt d) S) = .fl (.rt d) S := nr rfl
@[simp] theorem ev_slot0 {o : Option D} : slotD none o ρ = ρ := nr rfl
@[simp] theorem ev_slot1 {o : Option D} : slotD (some n) o ρ = ρ.set n o := nr rfl
@[simp] theorem fIsX_gl : fIsX isa isaT [.ref n, .gl c] S = match S[n]? with
    | some (.exn y []) => (isa y c).map fun b => (.bl b, S)
    | _ => none := nr rfl
@[simp] theorem fIsX_ty {t : String} : fIsX isa isaT [.ref n, .ty t] S = match S[n]? with
    | some (.exn y []) => (isaT y t).map fun b => (.bl b, S)
    | _ => fIsi [.ref n, .ty t] S := nr rfl
@[simp] theorem fIsX_non {t : String} : fIsX isa isaT [.non, .ty t] S = fIsi [.non, .ty t] S := nr rfl
@[simp] theorem fIsX_int {i : Int} {t : String} : fIsX isa isaT [.int i, .ty t] S = fIsi [.int i, .ty t] S := nr rfl
@[simp] theorem fIsX_bl {i : Bool} {t : String} : fIsX isa isaT [.bl i, .ty t] S = fIsi [.bl i, .ty t] S := nr rfl
@[simp] theorem fIsX_str {i : Str} {t : String} : fIsX isa isaT [.str i, .ty t] S = fIsi [.str i, .ty t] S := nr rfl
@[simp] theorem fIsX_tup {i : List D} {t : String} : fIsX isa isaT [.tup i, .ty t] S = fIsi [.tup i, .ty t] S := nr rfl
end
end Eng

/-! The engine, part 12: the table of classes from its rows. -/
namespace Eng
open PySem PySem.Spec PyProof.Rows L2
variable [TabCfg]
def isaOf (l : List (Str × Str × Bool)) : IsaT := fun y c => (l.find? fun p => decide (p.1 = y ∧ p.2.1 = c)).map (·.2.2)
def isaTOf (l : List (Str × String × Bool)) : Str → String → Option Bool := fun y c => (l.find? fun p => decide (p.1 = y ∧ p.2.1 = c)).map (·.2.2)
def excB (K : PySem.W.Frag) (D : Addr) : Bool :=
  decide (PySem.W.findIn K (.ref D) "__getattribute__" = some (some (.builtin "BaseException.__getattribute__"))) && (decide (PySem.W.findIn K (.ref D) "__getattr__" = some none) && (decide (PySem.W.subIn K (.ref D) (.type "BaseException") = some true) && (PySem.W.hasDictIn K D && (
  decide (PySem.W.findIn K (.ref D) "__class__" = some (some (.builtin "object.__class__"))) && (decide (PySem.W.specialIn K (.builtin "object.__class__") "__get__" = some (some (.builtin "getset_descriptor.__get__"))) && (decide (PySem.W.takesIn K (.builtin "object.__class__") = some true) && decide (PySem.W.mroIn K D (.type "object") = some true)))))))
theorem excB_ok {K : PySem.W.Frag} {D : Addr} (h : excB K D = true) : ExcC K D := by
  unfold excB at h
  simp only [Bool.and_eq_true, decide_eq_true_eq] at h
  obtain ⟨h1, h2, h3, h4, h5, h6, h7, h8⟩ := h
  exact ⟨h1, h2, h3, h4, h5, h6, h7, h8⟩
def allL {α : Type} (P : α → Prop) : List α → Prop
  | [] => True
  | p :: r => P p ∧ allL P r
theorem allL_mem {α : Type} {P : α → Prop} : ∀ {l : List α}, allL P l → ∀ p ∈ l, P p
  | [], _, _, h => nomatch h
  | q :: r, ⟨h1, h2⟩, p, h => by
    rcases List.mem_cons.mp h with rfl | h
    · exact h1
    · exact allL_mem h2 p h
theorem isaOk_of {K : PySem.W.Frag} {mg : Str → Option Value} {l : List (Str × Str × Bool)} {lt : List (Str × String × Bool)}
    (h : allL (fun p => ∃ Cy Cc, mg p.1 = some (.ref Cy) ∧ mg p.2.1 = some (.ref Cc) ∧ PySem.W.exmOne K (.ref Cy) (.ref Cc) = some p.2.2 ∧ PySem.W.kitOne K (.ref Cy) (.ref Cc) = some p.2.2 ∧ ExcC K Cy) l)
    (ht : allL (fun p => ∃ Cy, mg p.1 = some (.ref Cy) ∧ PySem.W.kitOne K (.ref Cy) (.type p.2.1) = some p.2.2 ∧ ExcC K Cy) lt) : IsaOk K mg (isaOf l) (isaTOf lt) := by
  have at1 : ∀ y c b, isaOf l y c = some b → ∃ Cy Cc, mg y = some (.ref Cy) ∧ mg c = some (.ref Cc) ∧ PySem.W.exmOne K (.ref Cy) (.ref Cc) = some b ∧ PySem.W.kitOne K (.ref Cy) (.ref Cc) = some b ∧ ExcC K Cy := by
    intro y c b e
    unfold isaOf at e
    cases q : l.find? fun p => decide (p.1 = y ∧ p.2.1 = c) with
    | none => rw [q] at e; cases e
    | some p =>
      rw [q] at e
      cases e
      have z := List.find?_some q
      obtain ⟨rfl, rfl⟩ := of_decide_eq_true z
      exact allL_mem h p (List.mem_of_find?_eq_some q)
  have at2 : ∀ y c b, isaTOf lt y c = some b → ∃ Cy, mg y = some (.ref Cy) ∧ PySem.W.kitOne K (.ref Cy) (.type c) = some b ∧ ExcC K Cy := by
    intro y c b e
    unfold isaTOf at e
    cases q : lt.find? fun p => decide (p.1 = y ∧ p.2.1 = c) with
    | none => rw [q] at e; cases e
    | some p =>
      rw [q] at e
      cases e
      have z := List.find?_some q
      obtain ⟨rfl, rfl⟩ := of_decide_eq_true z
      exact allL_mem ht p (List.mem_of_find?_eq_some q)
  refine ⟨fun y c b Cy Cc e h1 h2 => ?_, fun y c b Cy Cc e h1 h2 => ?_, fun y n b Cy e h1 => ?_, fun y c b Cy e h1 => ?_, fun y n b Cy e h1 => ?_⟩
  · obtain ⟨u, v, z1, z2, z3, z4, z5⟩ := at1 y c b e
    rw [h1] at z1; cases z1
    rw [h2] at z2; cases z2
    exact z3
  · obtain ⟨u, v, z1, z2, z3, z4, z5⟩ := at1 y c b e
    rw [h1] at z1; cases z1
    rw [h2] at z2; cases z2
    exact z4
  · obtain ⟨u, z1, z2, z3⟩ := at2 y n b e
    rw [h1] at z1; cases z1
    exact z2
  · obtain ⟨u, v, z1, z2, z3, z4, z5⟩ := at1 y c b e
    rw [h1] at z1; cases z1
    exact z5
  · obtain ⟨u, z1, z2, z3⟩ := at2 y n b e
    rw [h1] at z1; cases z1
    exact z3
/-! ### numbers' texts -/
/-- str(n) -/
def num (n : Int) : Str := Str.ofString (toString n)
@[simp high] theorem fStr_num {i : Int} {S : Sto} : fStr [.int i] S = if i.natAbs.log2 < 1920 then some (.str (num i), S) else none := nr rfl
theorem num_len {n : Int} {k : Nat} (hk : 0 < k) (h : n.natAbs < 10 ^ k) : (num n).length ≤ k + 1 := by
  have e := int_text_length_le10 hk h
  unfold num
  rw [PySem.ofString_length]
  exact e
end Eng

/-! The engine, part 13: walks over reversed(..), zip(.., ..), enumerate(..). -/
namespace Eng
open PySem PySem.Spec PyProof.Rows L2
variable [TabCfg]
def itRv (r n : Nat) : ItD := ⟨n, fun i S => (lstAt S r).bind (·[n - 1 - i]?), fun _ => true⟩
def itRvT (ds : List D) : ItD := ⟨ds.length, fun i _ => ds[ds.length - 1 - i]?, fun _ => true⟩
def zipNx (xs ys : List D) (i : Nat) : Option D := match xs[i]?, ys[i]? with
  | some x, some y => some (.tup [x, y])
  | _, _ => none
def itZ (r s c : Nat) : ItD := ⟨c, fun i S => match lstAt S r, lstAt S s with
  | some xs, some ys => zipNx xs ys i
  | _, _ => none, fun S => match lstAt S r, lstAt S s with
  | some xs, some ys => decide (xs.length ≤ c ∨ ys.length ≤ c)
  | _, _ => false⟩
def itZT (xs ys : List D) : ItD := ⟨min xs.length ys.length, fun i _ => zipNx xs ys i, fun _ => true⟩
def itE (r c : Nat) : ItD := ⟨c, fun i S => ((lstAt S r).bind (·[i]?)).map fun x => .tup [.int (i : Nat), x], fun S => match lstAt S r with
  | some xs => decide (xs.length ≤ c)
  | none => false⟩
section
variable {K : PySem.W.Frag} {mg : Str → Option Value} {β : List Addr} {H : Hp}
theorem itRv_ok {r n : Nat} {a : Addr} (h : β[r]? = some a) : ItOk K mg β H (Itv K a n) (itRv r n) := by
  intro β' H' S' x rl
  refine ⟨fun i d hi hd => ?_, fun _ => Nat.le_refl _⟩
  have hd' : (lstAt S' r).bind (·[n - 1 - i]?) = some d := hd
  cases q : lstAt S' r with
  | none => rw [q] at hd'; cases hd'
  | some ds =>
    rw [q] at hd'
    obtain ⟨xs, h1, h2⟩ := lst_read rl (x.at' h) q
    obtain ⟨v, h3, h4⟩ := h2.get (show ds[n - 1 - i]? = some d from hd')
    refine ⟨⟨hi, xs, v, h1, h3⟩, fun y H'' hy => ?_⟩
    obtain ⟨rfl, hy⟩ := hy
    have e := hy xs h1
    rw [h3] at e
    cases e
    exact ⟨.refl, rl, h4⟩
theorem itRvT_ok {ds : List D} {a : Addr} {xs : List V} (h : H a = some (.tup xs)) (hv : Vds K mg β H xs ds) : ItOk K mg β H (RT.ItvT K a xs.length) (itRvT ds) := by
  intro β' H' S' x rl
  have h' : SqT K H' a xs := .of (x.tup _ _ h)
  have hl := hv.length
  refine ⟨fun i d hi hd => ?_, fun _ => by show xs.length ≤ ds.length; omega⟩
  obtain ⟨v, h3, h4⟩ := (hv.ext x).get (show ds[ds.length - 1 - i]? = some d from hd)
  rw [← hl] at h3
  refine ⟨⟨by rw [hl]; exact hi, xs, v, h', h3⟩, fun y H'' hy => ?_⟩
  obtain ⟨rfl, hy⟩ := hy
  have e := hy xs h'
  rw [h3] at e
  cases e
  exact ⟨.refl, rl, h4⟩
theorem zip_at {xs ys : List D} {i : Nat} {d : D} (h : zipNx xs ys i = some d) : ∃ x y, xs[i]? = some x ∧ ys[i]? = some y ∧ d = .tup [x, y] := by
  unfold zipNx at h
  split at h
  · rename_i x y e1 e2
    cases h
    exact ⟨x, y, e1, e2, rfl⟩
  · cases h
theorem pair_made {S : Sto} {T : Addr} {u v : V} {x y : D} (rl : Rl K mg β H S) (hT : H T = none) (hu : Vd K mg β H u x) (hv : Vd K mg β H v y) : Xt K β H β (upd H T (.tup [u, v])) ∧ Rl K mg β (upd H T (.tup [u, v])) S ∧ Vd K mg β (upd H T (.tup [u, v])) (.ref T) (.tup [x, y]) := by
  have x1 : Xt K β H β (upd H T (.tup [u, v])) := xt_new' hT
  exact ⟨x1, rl.tup hT, .tup upd_same (.cons (hu.ext x1) (.cons (hv.ext x1) .nil))⟩
theorem itZ_ok {r s c : Nat} {a b : Addr} (ha : β[r]? = some a) (hb : β[s]? = some b) : ItOk K mg β H (Itz K a b) (itZ r s c) := by
  intro β' H' S' x rl
  refine ⟨fun i d hi hd => ?_, fun hf => ?_⟩
  · unfold itZ at hd
    dsimp only at hd
    split at hd
    · rename_i xs ys e1 e2
      obtain ⟨p, q, h1, h2, rfl⟩ := zip_at hd
      obtain ⟨us, k1, k2⟩ := lst_read rl (x.at' ha) e1
      obtain ⟨vs, k3, k4⟩ := lst_read rl (x.at' hb) e2
      obtain ⟨u, k5, k6⟩ := k2.get h1
      obtain ⟨v, k7, k8⟩ := k4.get h2
      refine ⟨⟨us, vs, u, v, k1, k3, k5, k7⟩, fun y H'' hy => ?_⟩
      obtain ⟨T, u', v', rfl, hT, rfl, g1, g2⟩ := hy
      have z1 := g1 us k1
      have z2 := g2 vs k3
      rw [k5] at z1
      rw [k7] at z2
      cases z1
      cases z2
      exact pair_made rl hT k6 k8
    · cases hd
  · unfold itZ at hf
    dsimp only at hf
    split at hf
    · rename_i xs ys e1 e2
      obtain ⟨us, k1, k2⟩ := lst_read rl (x.at' ha) e1
      obtain ⟨vs, k3, k4⟩ := lst_read rl (x.at' hb) e2
      exact ⟨us, vs, k1, k3, by rw [k2.length, k4.length]; exact of_decide_eq_true hf⟩
    · cases hf
theorem itZT_ok {xs ys : List D} {a b : Addr} {us vs : List V} (ha : H a = some (.tup us)) (hb : H b = some (.tup vs)) (hu : Vds K mg β H us xs) (hv : Vds K mg β H vs ys) : ItOk K mg β H (RZ.ItzT K a b) (itZT xs ys) := by
  intro β' H' S' x rl
  have k1 : SqT K H' a us := .of (x.tup _ _ ha)
  have k3 : SqT K H' b vs := .of (x.tup _ _ hb)
  refine ⟨fun i d hi hd => ?_, fun _ => ⟨us, vs, k1, k3, ?_⟩⟩
  · obtain ⟨p, q, h1, h2, rfl⟩ := zip_at (show zipNx xs ys i = some d from hd)
    obtain ⟨u, k5, k6⟩ := (hu.ext x).get h1
    obtain ⟨v, k7, k8⟩ := (hv.ext x).get h2
    refine ⟨⟨us, vs, u, v, k1, k3, k5, k7⟩, fun y H'' hy => ?_⟩
    obtain ⟨T, u', v', rfl, hT, rfl, g1, g2⟩ := hy
    have z1 := g1 us k1
    have z2 := g2 vs k3
    rw [k5] at z1
    rw [k7] at z2
    cases z1
    cases z2
    exact pair_made rl hT k6 k8
  · show us.length ≤ min xs.length ys.length ∨ vs.length ≤ min xs.length ys.length
    rw [hu.length, hv.length]
    omega
theorem itE_ok {r c : Nat} {a : Addr} (ha : β[r]? = some a) : ItOk K mg β H (Ite K a) (itE r c) := by
  intro β' H' S' x rl
  refine ⟨fun i d hi hd => ?_, fun hf => ?_⟩
  · have hd' : ((lstAt S' r).bind (·[i]?)).map (fun x => D.tup [.int (i : Nat), x]) = some d := hd
    cases q : lstAt S' r with
    | none => rw [q] at hd'; cases hd'
    | some ds =>
      rw [q] at hd'
      cases q2 : ds[i]? with
      | none =>
        have : (some ds).bind (fun x => x[i]?) = none := q2
        rw [this] at hd'
        cases hd'
      | some y =>
        have : (some ds).bind (fun x => x[i]?) = some y := q2
        rw [this] at hd'
        cases hd'
        obtain ⟨us, k1, k2⟩ := lst_read rl (x.at' ha) q
        obtain ⟨u, k5, k6⟩ := k2.get q2
        refine ⟨⟨us, u, k1, k5⟩, fun z H'' hy => ?_⟩
        obtain ⟨T, u', rfl, hT, rfl, g1⟩ := hy
        have z1 := g1 us k1
        rw [k5] at z1
        cases z1
        exact pair_made rl hT (.int _) k6
  · unfold itE at hf
    dsimp only at hf
    cases q : lstAt S' r with
    | none => rw [q] at hf; cases hf
    | some ds =>
      rw [q] at hf
      obtain ⟨us, k1, k2⟩ := lst_read rl (x.at' ha) q
      exact ⟨us, k1, by rw [k2.length]; exact of_decide_eq_true hf⟩
end
def revI (d : D) (S : Sto) : R ItD := match d with
  | .ref n => match lstAt S n with
    | some xs => .ok (itRv n xs.length) S
    | none => .stuck
  | .tup ds => .ok (itRvT ds) S
  | _ => .stuck
def mRev (m : Mx) : Mi := fun ρ S => (m ρ S).bind revI
def zipI (ds : List D) (S : Sto) : R ItD := match ds with
  | [.ref n, .ref k] => match lstAt S n, lstAt S k with
    | some xs, some ys => .ok (itZ n k (min xs.length ys.length)) S
    | _, _ => .stuck
  | [.tup xs, .tup ys] => .ok (itZT xs ys) S
  | _ => .stuck
def mZip (m : Ma) : Mi := fun ρ S => (m ρ S).bind zipI
def enumI (ds : List D) (S : Sto) : R ItD := match ds with
  | [.ref n] => match lstAt S n with
    | some xs => .ok (itE n xs.length) S
    | none => .stuck
  | _ => .stuck
def mEnum (m : Ma) : Mi := fun ρ S => (m ρ S).bind enumI
section
variable {X : Cx} {W : WX} {tg e e2 : Expr} {m m2 : Mx} {pos p tpos : Pos} {elts : List Expr} {kk : Nat}
theorem mi_rev (hm : X.mg "reversed" = none) (h : ME X W e m) (hg : Gl X "reversed" := by rfl) (hs : starEach [e] X.env = (false, eval e X.env) :: starEach [] X.env := by rfl) : MI X W tg (.Call (.Name "reversed" p) [e] [] pos) (mRev m) := by
  refine ⟨PI.weak (RT.pi_revA hg hm h.pe hs) fun σ H Q ⟨β, S, ρ, rl, en, q⟩ => ⟨β, S, ρ, rl, en, (Po.bind q).mono fun d β1 S1 H1 x1 r1 q1 v hv => ?_⟩⟩
  cases d with
  | ref n =>
    obtain ⟨a, rfl, h1⟩ := hv.ref_inv
    unfold revI at q1
    dsimp only at q1
    cases q2 : lstAt S1 n with
    | none => rw [q2] at q1; exact q1.elim
    | some xs =>
      rw [q2] at q1
      obtain ⟨vs, h2, h3⟩ := lst_read r1 h1 q2
      refine ⟨a, vs, rfl, .inl ⟨h2, ?_⟩⟩
      rw [h3.length]
      exact q1 β1 H1 .refl r1 _ (itRv_ok h1)
  | tup ds =>
    obtain ⟨a, vs, rfl, h1, h2⟩ := hv.tup_at
    exact ⟨a, vs, rfl, .inr ⟨.of h1, q1 β1 H1 .refl r1 _ (itRvT_ok h1 h2)⟩⟩
  | _ => exact q1.elim
theorem mi_zip (hm : X.mg "zip" = none) (ha : ME X W e m) (hb : ME X W e2 m2) (hg : Gl X "zip" := by rfl) (hs : starEach [e, e2] X.env = (false, eval e X.env) :: starEach [e2] X.env := by rfl) (hs2 : starEach [e2] X.env = [(false, eval e2 X.env)] := by rfl) (hpl : (backTo pos (starEach [e2] X.env)).any (·.1) = false := by rfl) :
    MI X W (.Tuple elts kk tpos) (.Call (.Name "zip" p) [e, e2] [] pos) (mZip (mCons m (mCons m2 mNil))) := by
  have hA : MA X W [e, e2] (mCons m (mCons m2 mNil)) := ma_cons ha (ma_cons hb ma_nil hs2) hs
  refine ⟨PI.weak (RZ.pi_zipA hg hm hA.pa hs hpl) fun σ H Q ⟨β, S, ρ, rl, en, q⟩ => ⟨β, S, ρ, rl, en, (Po.bind q).mono fun ds β1 S1 H1 x1 r1 q1 vs hv => ?_⟩⟩
  unfold zipI at q1
  split at q1
  · rename_i n k
    obtain ⟨u, v, rfl, h1, h2⟩ := hv.two
    obtain ⟨a, rfl, h3⟩ := h1.ref_inv
    obtain ⟨b, rfl, h4⟩ := h2.ref_inv
    split at q1
    · rename_i xs ys e1 e2
      obtain ⟨us, k1, k2⟩ := lst_read r1 h3 e1
      obtain ⟨ws, k3, k4⟩ := lst_read r1 h4 e2
      exact ⟨a, b, us, ws, rfl, .inl ⟨k1, k3, q1 β1 H1 .refl r1 _ (itZ_ok h3 h4)⟩⟩
    · exact q1.elim
  · rename_i xs ys
    obtain ⟨u, v, rfl, h1, h2⟩ := hv.two
    obtain ⟨a, us, rfl, h3, h4⟩ := h1.tup_at
    obtain ⟨b, ws, rfl, h5, h6⟩ := h2.tup_at
    exact ⟨a, b, us, ws, rfl, .inr ⟨.of h3, .of h5, q1 β1 H1 .refl r1 _ (itZT_ok h3 h5 h4 h6)⟩⟩
  · exact q1.elim
theorem mi_enum (hm : X.mg "enumerate" = none) (ha : ME X W e m) (hg : Gl X "enumerate" := by rfl) (hs : starEach [e] X.env = [(false, eval e X.env)] := by rfl) : MI X W (.Tuple elts kk tpos) (.Call (.Name "enumerate" p) [e] [] pos) (mEnum (mCons m mNil)) := by
  have hA : MA X W [e] (mCons m mNil) := ma_cons ha ma_nil hs
  refine ⟨PI.weak (pi_enum hg hm hA.pa hs) fun σ H Q ⟨β, S, ρ, rl, en, q⟩ => ⟨β, S, ρ, rl, en, (Po.bind q).mono fun ds β1 S1 H1 x1 r1 q1 vs hv => ?_⟩⟩
  unfold enumI at q1
  split at q1
  · rename_i n
    obtain ⟨u, rfl, h1⟩ := hv.one
    obtain ⟨a, rfl, h3⟩ := h1.ref_inv
    cases e1 : lstAt S1 n with
    | none => rw [e1] at q1; exact q1.elim
    | some xs =>
      rw [e1] at q1
      obtain ⟨us, k1, k2⟩ := lst_read r1 h3 e1
      exact ⟨a, us, rfl, k1, q1 β1 H1 .refl r1 _ (itE_ok h3)⟩
  · exact q1.elim
end
section
variable {ρ : Env'} {S : Sto} {m : Mx} {ma : Ma} {n k : Nat} {xs ys : List D}
@[simp] theorem ev_rev : mRev m ρ S = (m ρ S).bind revI := nr rfl
@[simp] theorem revI_tup : revI (.tup xs) S = .ok (itRvT xs) S := nr rfl
@[simp] theorem revI_ref : revI (.ref n) S = match lstAt S n with
    | some xs => .ok (itRv n xs.length) S
    | none => .stuck := nr rfl
@[simp] theorem ev_zip : mZip ma ρ S = (ma ρ S).bind zipI := nr rfl
@[simp] theorem zipI_tup : zipI [.tup xs, .tup ys] S = .ok (itZT xs ys) S := nr rfl
@[simp] theorem zipI_ref : zipI [.ref n, .ref k] S = match lstAt S n, lstAt S k with
    | some xs, some ys => .ok (itZ n k (min xs.length ys.length)) S
    | _, _ => .stuck := nr rfl
@[simp] theorem ev_enum : mEnum ma ρ S = (ma ρ S).bind enumI := nr rfl
@[simp] theorem enumI_ref : enumI [.ref n] S = match lstAt S n with
    | some xs => .ok (itE n xs.length) S
    | none => .stuck := nr rfl
end
end Eng

/-! The engine, part 14: methods of dicts. -/
namespace Eng
open PySem PySem.Spec PyProof.Rows L2
variable [TabCfg]
/-- the place of a dict -/
def dictAt (o : D) (S : Sto) : Option Nat := match o with
  | .ref n => match S[n]? with
    | some (.dk _) => some n
    | some (.dt _) => some n
    | _ => none
  | _ => none
theorem dictAt_ok {K : PySem.W.Frag} {mg : Str → Option Value} {β : List Addr} {H : Hp} {S : Sto} {v : V} {o : D} {n : Nat} (r : Rl K mg β H S) (h : Vd K mg β H v o) (e : dictAt o S = some n) : ∃ a, v = .ref a ∧ β[n]? = some a ∧ IsD H a := by
  cases o with
  | ref m =>
    obtain ⟨a, rfl, h1⟩ := h.ref_inv
    unfold dictAt at e
    dsimp only at e
    cases q : S[m]? with
    | none => rw [q] at e; cases e
    | some ob =>
      rw [q] at e
      have ho := r.at' m a ob h1 q
      cases ob with
      | dk kvs =>
        cases e
        obtain ⟨xs, h2, _⟩ := ho
        exact ⟨a, rfl, h1, .inl ⟨xs, .inl h2⟩⟩
      | dt kvs =>
        cases e
        obtain ⟨xs, h2, _⟩ := ho
        exact ⟨a, rfl, h1, .inr ⟨xs, .inl h2⟩⟩
      | _ => cases e
  | _ => cases e
def orD (o : Option D) (d : D) : D := match o with
  | some x => x
  | none => d
def getD1 (n : Nat) (y d : D) (S : Sto) : R D := match dGet S n y with
  | some o => .ok (orD o d) S
  | none => .stuck
def mGet1 (mo mk : Mx) : Mx := fun ρ S => (mo ρ S).bind fun o S1 => match dictAt o S1 with
  | some n => (mk ρ S1).bind fun y S2 => getD1 n y .non S2
  | none => .stuck
def mGet2 (mo mk md : Mx) : Mx := fun ρ S => (mo ρ S).bind fun o S1 => match dictAt o S1 with
  | some n => (mk ρ S1).bind fun y S2 => (md ρ S2).bind fun d S3 => getD1 n y d S3
  | none => .stuck
/-- d.pop(k), d.pop(k, x): keys of ints and texts -/
def popD (n : Nat) (y : D) (d : Option D) (S : Sto) : R D := match S[n]?, keyD y with
  | some (.dk kvs), some k => match valD kvs k with
    | some x => .ok x (S.set n (.dk (dropD kvs k)))
    | none => match d with
      | some x => .ok x S
      | none => .stuck
  | _, _ => .stuck
def mPop1 (mo mk : Mx) : Mx := fun ρ S => (mo ρ S).bind fun o S1 => match dictAt o S1 with
  | some n => (mk ρ S1).bind fun y S2 => popD n y none S2
  | none => .stuck
section
variable {X : Cx} {W : WX} {pos apos : Pos} {o e f : Expr} {mo me mf : Mx}
theorem getD_ok {K : PySem.W.Frag} {mg : Str → Option Value} {σ : L2.St} {β : List Addr} {H : Hp} {S : Sto} {n : Nat} {a : Addr} {u z : V} {y d : D} {Q : VK} (r : Rl K mg β H S) (h : β[n]? = some a) (hy : Vd K mg β H u y) (hz : Vd K mg β H z d) (q : Po K mg W σ β H (getD1 n y d S) fun x β' _ H' => ∀ v, Vd K mg β' H' v x → Q v H') :
    ∃ ov, DGet H a u ov ∧ Q (ov.getD z) H := by
  unfold getD1 at q
  cases e1 : dGet S n y with
  | none => rw [e1] at q; exact q.elim
  | some od =>
    rw [e1] at q
    obtain ⟨ov, g, w⟩ := dGet_ok r h hy e1
    refine ⟨ov, g, q β H .refl r _ ?_⟩
    cases ov <;> cases od <;> first | exact w.elim | exact hz | exact w
theorem me_get1 (hu : X.A.units + 1 < cLine) (ho : ME X W o mo) (he : ME X W e me) (m : M1 X o "get" apos e pos := by exact ⟨rfl, rfl, rfl, rfl⟩) : ME X W (.Call (.Attribute o "get" apos) [e] [] pos) (mGet1 mo me) := by
  refine ⟨PE.weak (pe_dget1 hu ho.pe he.pe m) fun σ H Q ⟨β, S, ρ, rl, en, q⟩ => ⟨β, S, ρ, rl, en, (Po.bind q).mono fun d β1 S1 H1 x1 r1 q1 v hv => ?_⟩⟩
  cases e1 : dictAt d S1 with
  | none => rw [e1] at q1; exact q1.elim
  | some n =>
    rw [e1] at q1
    obtain ⟨a, rfl, h1, h2⟩ := dictAt_ok r1 hv e1
    exact ⟨a, rfl, h2, β1, S1, ρ, r1, en.ext x1, (Po.bind q1).mono fun y β2 S2 H2 x2 r2 q2 u hu2 => getD_ok (z := .non) r2 (x2.at' h1) hu2 .non q2⟩
theorem me_get2 (hu : X.A.units + 1 < cLine) (ho : ME X W o mo) (he : ME X W e me) (hf : ME X W f mf) (m : M2 X o "get" apos e f pos := by exact ⟨rfl, rfl, rfl, rfl⟩) : ME X W (.Call (.Attribute o "get" apos) [e, f] [] pos) (mGet2 mo me mf) := by
  refine ⟨PE.weak (pe_dget2 hu ho.pe he.pe hf.pe m) fun σ H Q ⟨β, S, ρ, rl, en, q⟩ => ⟨β, S, ρ, rl, en, (Po.bind q).mono fun d β1 S1 H1 x1 r1 q1 v hv => ?_⟩⟩
  cases e1 : dictAt d S1 with
  | none => rw [e1] at q1; exact q1.elim
  | some n =>
    rw [e1] at q1
    obtain ⟨a, rfl, h1, h2⟩ := dictAt_ok r1 hv e1
    exact ⟨a, rfl, h2, β1, S1, ρ, r1, en.ext x1, (Po.bind q1).mono fun y β2 S2 H2 x2 r2 q2 u hu2 => ⟨β2, S2, ρ, r2, en.ext (x1.trans x2), (Po.bind q2).mono fun z β3 S3 H3 x3 r3 q3 w hw => getD_ok r3 (x3.at' (x2.at' h1)) (hu2.ext x3) hw q3⟩⟩
theorem me_pop1 (ho : ME X W o mo) (he : ME X W e me) (m : M1 X o "pop" apos e pos := by exact ⟨rfl, rfl, rfl, rfl⟩) : ME X W (.Call (.Attribute o "pop" apos) [e] [] pos) (mPop1 mo me) := by
  refine ⟨PE.weak (pe_dpop1 ho.pe he.pe m) fun σ H Q ⟨β, S, ρ, rl, en, q⟩ => ⟨β, S, ρ, rl, en, (Po.bind q).mono fun d β1 S1 H1 x1 r1 q1 v hv => ?_⟩⟩
  cases e1 : dictAt d S1 with
  | none => rw [e1] at q1; exact q1.elim
  | some n =>
    rw [e1] at q1
    obtain ⟨a, rfl, h1, h2⟩ := dictAt_ok r1 hv e1
    refine ⟨a, rfl, h2, β1, S1, ρ, r1, en.ext x1, (Po.bind q1).mono fun y β2 S2 H2 x2 r2 q2 u hu2 => ?_⟩
    have hb := x2.at' h1
    unfold popD at q2
    split at q2
    · rename_i kvs k e2 e3
      obtain ⟨xs, h3, h4⟩ := r2.at' n a _ hb e2
      have hk := keyD_ok hu2 e3
      subst hk
      have hval := h4.val k
      cases e4 : valD kvs k with
      | none => rw [e4] at q2; exact q2.elim
      | some x =>
        rw [e4] at q2 hval
        cases e5 : valV xs k with
        | none => rw [e5] at hval; exact hval.elim
        | some w =>
          rw [e5] at hval
          obtain ⟨r3, x3⟩ := r2.write (o := .dK (dropK xs k)) (b' := .dk (dropD kvs k)) hb e2 rfl rfl fun x => ⟨_, upd_same, (h4.drop k).ext x⟩
          exact ⟨xs, k, w, h3, rfl, e5, q2 β2 _ x3 r3 w (Vd.ext x3 hval)⟩
    · exact q2.elim
end
section
variable {ρ : Env'} {S : Sto} {mo mk md : Mx} {n : Nat} {d : D}
@[simp] theorem ev_get1 : mGet1 mo mk ρ S = (mo ρ S).bind fun o S1 => match dictAt o S1 with
  | some n => (mk ρ S1).bind fun y S2 => getD1 n y .non S2
  | none => .stuck := nr rfl
@[simp] theorem ev_get2 : mGet2 mo mk md ρ S = (mo ρ S).bind fun o S1 => match dictAt o S1 with
  | some n => (mk ρ S1).bind fun y S2 => (md ρ S2).bind fun d S3 => getD1 n y d S3
  | none => .stuck := nr rfl
@[simp] theorem ev_pop1 : mPop1 mo mk ρ S = (mo ρ S).bind fun o S1 => match dictAt o S1 with
  | some n => (mk ρ S1).bind fun y S2 => popD n y none S2
  | none => .stuck := nr rfl
end
end Eng

/-! The engine, part 15: tuples of whole numbers and texts, compared. -/
namespace Eng
open PySem PySem.Spec PyProof.Rows L2
variable [TabCfg]
def isPt : D → Bool
  | .int _ => true
  | .str _ => true
  | _ => false
def ptPy : D → PyData
  | .int i => .int i
  | .str z => .str z
  | _ => .none
theorem toPys_pts {S : Sto} {n : Nat} : ∀ ds : List D, (∀ d ∈ ds, isPt d = true) → toPys S n ds = some (ds.map ptPy)
  | [], _ => by unfold toPys; rfl
  | d :: r, h => by
    have h1 := h d (List.mem_cons_self ..)
    rw [toPys, toPys_pts r fun x hx => h x (List.mem_cons_of_mem _ hx)]
    cases d with
    | int i => rw [toPy]; rfl
    | str z => rw [toPy]; rfl
    | _ => cases h1
theorem eqv_pts {d e : D} (h : isPt d = true) (h2 : isPt e = true) : PyData.eqv (ptPy d) (ptPy e) = true ↔ d = e := by
  cases d <;> first | (cases h; done) | skip
  all_goals cases e <;> first | (cases h2; done) | skip
  all_goals simp [ptPy, PyData.eqv]
theorem eqvAll_pts : ∀ xs ys : List D, (∀ d ∈ xs, isPt d = true) → (∀ d ∈ ys, isPt d = true) → (PyData.eqvAll (xs.map ptPy) (ys.map ptPy) = true ↔ xs = ys)
  | [], [], _, _ => by simp [PyData.eqvAll]
  | [], y :: ys, _, _ => by simp [PyData.eqvAll]
  | x :: xs, [], _, _ => by simp [PyData.eqvAll]
  | x :: xs, y :: ys, h1, h2 => by
    have ih := eqvAll_pts xs ys (fun d hd => h1 d (List.mem_cons_of_mem _ hd)) fun d hd => h2 d (List.mem_cons_of_mem _ hd)
    have e := eqv_pts (h1 x (List.mem_cons_self ..)) (h2 y (List.mem_cons_self ..))
    rw [List.map_cons, List.map_cons, PyData.eqvAll, Bool.and_eq_true, ih, e]
    simp
def okPt : D → Bool
  | .str z => PyData.strOk z
  | _ => true
theorem canLay_pts : ∀ xs : List D, (∀ d ∈ xs, okPt d = true) → PyData.canLayAll0 (xs.map ptPy) = true
  | [], _ => by simp [PyData.canLayAll0]
  | x :: xs, h => by
    have h1 := h x (List.mem_cons_self ..)
    rw [List.map_cons, PyData.canLayAll0, canLay_pts xs fun d hd => h d (List.mem_cons_of_mem _ hd)]
    cases x with
    | str z =>
      simp only [ptPy, PyData.canLay0, Bool.and_true]
      exact h1
    | _ => simp [ptPy, PyData.canLay0]
theorem depth_pts : ∀ xs : List D, PyData.depthAll (xs.map ptPy) = 0
  | [] => by simp [PyData.depthAll]
  | x :: xs => by
    rw [List.map_cons, PyData.depthAll, depth_pts xs]
    cases x <;> simp [ptPy, PyData.depth]
theorem eqD_pts {S : Sto} {xs ys : List D} (h1 : ∀ d ∈ xs, isPt d = true) (h2 : ∀ d ∈ ys, isPt d = true) (k1 : ∀ d ∈ xs, okPt d = true) (k2 : ∀ d ∈ ys, okPt d = true) : ∃ b, eqD S (.tup xs) (.tup ys) = some b ∧ (b = true ↔ xs = ys) := by
  have s : ∀ zs : List D, (∀ d ∈ zs, okPt d = true) → SeqAt.shaped (.tuple (zs.map ptPy)) = true := by
    intro zs hk
    unfold SeqAt.shaped
    rw [PyData.canLay0, canLay_pts zs hk, PyData.depth, depth_pts]
    rfl
  refine ⟨_, ?_, eqvAll_pts xs ys h1 h2⟩
  show deepEq S _ _ = _
  unfold deepEq
  rw [toPy, toPy, toPys_pts xs h1, toPys_pts ys h2]
  dsimp only [Option.map]
  rw [s xs k1, s ys k2]
  simp only [Bool.and_self, if_true]
  rw [PyData.eqv]
end Eng

/-! The engine, part 16: a while loop that is left by a raise. -/
namespace Eng
open PySem PySem.Spec PyProof.Rows L2
variable [TabCfg]
theorem while_ex {c : Mb} {b : Ms} {ρ ρ2 : Env'} {S S1 S2 : Sto} {x : Exn} (h : c ρ S = .ok true S1) (h1 : b ρ S1 = .ex x ρ2 S2) : sWhile c b ρ S = .ex x ρ2 S2 := by
  refine sWhile_eq (n := 1) ?_ (by intro e; cases e)
  rw [whileF, h]
  simp only [R.st, if_true, h1]
end Eng

set_option maxHeartbeats 2000000
/-! The engine, part 17: own classes: fields, making, methods. -/
namespace Eng
open PySem PySem.Spec PyProof.Rows L2
variable [TabCfg]
/-! ### an instance's fields -/
def putO (f : Str) (d : D) : List (Str × D) → List (Str × D)
  | [] => [(f, d)]
  | (g, x) :: r => if g = f then (g, d) :: r else (g, x) :: putO f d r
section
variable {K : PySem.W.Frag} {mg : Str → Option Value} {β : List Addr} {H : Hp}
theorem Pd.putF {f : Str} {y : V} {d : D} (hv : Vd K mg β H y d) : ∀ {xs : List (Str × V)} {fs : List (Str × D)}, Pd K mg β H xs fs → Pd K mg β H (L2.putF f y xs) (putO f d fs)
  | _, _, .nil => .cons ⟨rfl, hv⟩ .nil
  | _, _, .cons (a := (g, x)) (b := (g', x')) h t => by
    obtain ⟨h1, h2⟩ := h
    have h1 : g = g' := h1
    subst h1
    unfold L2.putF putO
    by_cases e : g = f
    · rw [if_pos e, if_pos e]
      exact .cons ⟨rfl, hv⟩ t
    · rw [if_neg e, if_neg e]
      exact .cons ⟨rfl, h2⟩ (Pd.putF hv t)
theorem Pd.look {f : Str} {d : D} : ∀ {xs : List (Str × V)} {fs : List (Str × D)}, Pd K mg β H xs fs → fs.lookup f = some d → ∃ v, xs.lookup f = some v ∧ Vd K mg β H v d
  | _, _, .nil, e => by cases e
  | _, _, .cons (a := (g, x)) (b := (g', x')) h t, e => by
    obtain ⟨h1, h2⟩ := h
    have h1 : g = g' := h1
    subst h1
    rw [List.lookup_cons] at e ⊢
    cases q : f == g with
    | true => rw [q] at e; cases e; exact ⟨x, rfl, h2⟩
    | false => rw [q] at e; exact Pd.look t e
theorem Pd.look0 {f : Str} : ∀ {xs : List (Str × V)} {fs : List (Str × D)}, Pd K mg β H xs fs → fs.lookup f = none → xs.lookup f = none
  | _, _, .nil, _ => rfl
  | _, _, .cons (a := (g, x)) (b := (g', x')) h t, e => by
    obtain ⟨h1, h2⟩ := h
    have h1 : g = g' := h1
    subst h1
    rw [List.lookup_cons] at e ⊢
    cases q : f == g with
    | true => rw [q] at e; cases e
    | false => rw [q] at e; exact Pd.look0 t e
theorem mem_of_look {f : Str} {d : D} : ∀ {fs : List (Str × D)}, fs.lookup f = some d → ∃ p ∈ fs, p.1 = f
  | [], e => by cases e
  | (g, x) :: r, e => by
    rw [List.lookup_cons] at e
    cases q : f == g with
    | true => exact ⟨(g, x), List.mem_cons_self .., (eq_of_beq q).symm⟩
    | false =>
      rw [q] at e
      obtain ⟨p, h1, h2⟩ := mem_of_look e
      exact ⟨p, List.mem_cons_of_mem _ h1, h2⟩
theorem mem_putO {f : Str} {d : D} {p : Str × D} : ∀ {fs : List (Str × D)}, p ∈ putO f d fs → p.1 = f ∨ p ∈ fs
  | [], h => .inl (by rw [List.mem_singleton.mp h])
  | (g, x) :: r, h => by
    unfold putO at h
    by_cases e : g = f
    · rw [if_pos e] at h
      rcases List.mem_cons.mp h with h | h
      · exact .inl (by rw [h]; exact e)
      · exact .inr (List.mem_cons_of_mem _ h)
    · rw [if_neg e] at h
      rcases List.mem_cons.mp h with h | h
      · exact .inr (by rw [h]; exact List.mem_cons_self ..)
      · rcases mem_putO h with h | h
        · exact .inl h
        · exact .inr (List.mem_cons_of_mem _ h)
end
def fldD (f : Str) (d : D) (S : Sto) : R D := match d with
  | .ref n => match S[n]? with
    | some (.ins _ fs) => match fs.lookup f with
      | some v => .ok v S
      | none => .stuck
    | _ => .stuck
  | _ => .stuck
def mFld (m : Mx) (f : Str) : Mx := fun ρ S => (m ρ S).bind (fldD f)
/-- in these classes nothing stands in the way of the attribute -/
structure FldC (K : PySem.W.Frag) (mg : Str → Option Value) (cs : List Str) (f : Str) : Prop where
  no : ∀ C ∈ cs, ∀ Ca, mg C = some (.ref Ca) → NoAttr K Ca f
def setFld (cs : List Str) (f : Str) (o d : D) (S : Sto) : Option Sto := match o with
  | .ref n => match S[n]? with
    | some (.ins C fs) => if C ∈ cs ∧ fs.length < 1000 then some (S.set n (.ins C (putO f d fs))) else none
    | _ => none
  | _ => none
def sFld (cs : List Str) (mo : Mx) (f : Str) (mv : Mx) : Ms := fun ρ S => (mv ρ S).st ρ fun d S1 => (mo ρ S1).st ρ fun o S2 => match setFld cs f o d S2 with
  | some S3 => .fl (.nx ρ) S3
  | none => .stuck
section
variable {X : Cx} {W : WX} {pos pos' apos p : Pos} {e o : Expr} {es : List Expr} {m mo : Mx} {ma : Ma} {f : Str} {cs : List Str}
theorem ins_of {β : List Addr} {H : Hp} {S : Sto} {n : Nat} {a : Addr} {C : Str} {fs : List (Str × D)} (r : Rl X.K X.mg β H S) (h1 : β[n]? = some a) (h2 : S[n]? = some (.ins C fs)) :
    ∃ Ca dx xs, X.mg C = some (.ref Ca) ∧ H a = some (.ins Ca dx xs) ∧ Pd X.K X.mg β H xs fs ∧ Cls X.K Ca ∧ ∀ p ∈ fs, NoAttr X.K Ca p.1 := r.at' n a _ h1 h2
theorem me_fld (he : ME X W e m) (hb : attributeBase e f X.env (eval e X.env) = eval e X.env := by rfl) : ME X W (.Attribute e f pos) (mFld m f) := by
  refine ⟨PE.weak (pe_fld he.pe hb) fun σ H Q ⟨β, S, ρ, rl, en, p⟩ => ⟨β, S, ρ, rl, en, (show Po X.K X.mg W σ β H ((m ρ S).bind (fldD f)) _ from p).bind.mono fun d β1 S1 H1 x1 r1 q v hv => ?_⟩⟩
  unfold fldD at q
  cases d with
  | ref n =>
    obtain ⟨a, rfl, h1⟩ := hv.ref_inv
    dsimp only at q
    cases e1 : S1[n]? with
    | none => rw [e1] at q; exact q.elim
    | some ob =>
      rw [e1] at q
      cases ob with
      | ins C fs =>
        dsimp only at q
        cases e2 : fs.lookup f with
        | none => rw [e2] at q; exact q.elim
        | some d =>
          rw [e2] at q
          obtain ⟨Ca, dx, xs, g1, g2, g3, g4, g5⟩ := ins_of r1 h1 e1
          obtain ⟨w, g6, g7⟩ := g3.look e2
          obtain ⟨pp, g8, g9⟩ := mem_of_look e2
          exact ⟨a, Ca, dx, xs, w, rfl, g2, g4, by rw [← g9]; exact g5 pp g8, g6, q β1 H1 .refl r1 w g7⟩
      | _ => exact q.elim
  | _ => exact q.elim
theorem len_pd {K : PySem.W.Frag} {mg : Str → Option Value} {β : List Addr} {H : Hp} : ∀ {xs : List (Str × V)} {fs : List (Str × D)}, Pd K mg β H xs fs → xs.length = fs.length
  | _, _, .nil => rfl
  | _, _, .cons _ t => congrArg (· + 1) (len_pd t)
theorem setFld_ok {β : List Addr} {H : Hp} {S S' : Sto} {od d : D} {vo vd : V} (c : FldC X.K X.mg cs f) (r : Rl X.K X.mg β H S) (ho : Vd X.K X.mg β H vo od) (hd : Vd X.K X.mg β H vd d) (e : setFld cs f od d S = some S') :
    ∃ a Ca dx xs, vo = .ref a ∧ H a = some (.ins Ca dx xs) ∧ Cls X.K Ca ∧ NoAttr X.K Ca f ∧ xs.length < 1000 ∧ Rl X.K X.mg β (upd H a (.ins Ca dx (L2.putF f vd xs))) S' ∧ Xt X.K β H β (upd H a (.ins Ca dx (L2.putF f vd xs))) := by
  unfold setFld at e
  cases od with
  | ref n =>
    obtain ⟨a, rfl, h1⟩ := ho.ref_inv
    dsimp only at e
    cases e1 : S[n]? with
    | none => rw [e1] at e; cases e
    | some ob =>
      rw [e1] at e
      cases ob with
      | ins C fs =>
        dsimp only at e
        split at e
        · rename_i hc
          cases e
          obtain ⟨Ca, dx, xs, g1, g2, g3, g4, g5⟩ := ins_of r h1 e1
          have na := c.no C hc.1 Ca g1
          obtain ⟨r', x'⟩ := r.write (o := .ins Ca dx (L2.putF f vd xs)) (b' := .ins C (putO f d fs)) h1 e1 rfl rfl fun x => ⟨Ca, dx, _, g1, upd_same, (g3.putF hd).ext x, g4, fun p hp => by
            rcases mem_putO hp with h | h
            · rw [h]; exact na
            · exact g5 p h⟩
          exact ⟨a, Ca, dx, xs, rfl, g2, g4, na, by rw [len_pd g3]; exact hc.2, r', x'⟩
        · cases e
      | _ => cases e
  | _ => cases e
theorem ms_fld (c : FldC X.K X.mg cs f) (ho : ME X W o mo) (he : ME X W e m) (hs : swapsWith e (some (.Attribute o f pos')) pos.line X.env = pure false := by rfl) : MS X W (.Assign [.Attribute o f pos'] e pos) (sFld cs mo f m) := by
  refine ⟨PS.weak (ps_fld ho.pe he.pe hs) fun D σ H ⟨β, S, ρ, rl, en, p⟩ => ?_⟩
  refine ⟨β, S, ρ, rl, en, (PoS.st p en).mono fun d β1 S1 H1 x1 r1 q1 v hv => ⟨β1, S1, ρ, r1, en.ext x1, (PoS.st q1 (en.ext x1)).mono fun od β2 S2 H2 x2 r2 q2 ov hov => ?_⟩⟩
  cases e4 : setFld cs f od d S2 with
  | none => rw [e4] at q2; exact q2.elim
  | some S4 =>
    rw [e4] at q2
    obtain ⟨a, Ca, dx, xs, g1, g2, g3, g4, g5, r', x'⟩ := setFld_ok c r2 hov (hv.ext x2) e4
    exact ⟨a, Ca, dx, xs, g1, g2, g3, g4, g5, q2 β2 _ σ x' r' (en.ext ((x1.trans x2).trans x'))⟩
/-! ### C(..) -/
def newD (C : Str) (m : List D → Sto → R D) (ds : List D) (S : Sto) : R D := (m (.ref S.length :: ds) (S ++ [.ins C []])).bind fun d S2 => match d with
  | .non => .ok (.ref S.length) S2
  | _ => .stuck
def mNew (C : Str) (m : List D → Sto → R D) (ma : Ma) : Mx := fun ρ S => (ma ρ S).bind (newD C m)
theorem new_run {CX : CXT} {k : Nat} {C f : Addr} {fd : FuncData} {ps : List Str} {sp : Sp} {E : XK} {pins : List (Addr × Obj)} {σ : L2.St} {H : Hp} {s : Shared} {Q : VK} {us : List Value} {vs : List V}
    (M : Mk X.K C f) (F : FnOk X.prog X.w X.K X.mg X.base CX k f fd ps sp) (hr : Room (k + 1) X.A) (hb : Binds X.K fd ps []) (hx : PassesAt CX X σ E) (I : Inv X pins σ H s) (r : Vals vs us)
    (h : ∀ x dx, H x = none → H dx = none → dx ≠ x → sp (.ref x :: vs) (upd (upd H dx (.own x)) x (.ins C dx [])) (fun v H2 => v = .non ∧ Q (.ref x) H2) E) : wpAny (model X.prog X.w) X.A (call (.ref C) us) (EP X pins σ Q) X.xe s := by
  have J := Inv.made (C := C) I
  have at_ := h (s.heap.objs.size + 1) s.heap.objs.size (I.hok.fresh (Nat.le_succ _)) (I.hok.fresh (Nat.le_refl _)) (Nat.ne_of_lt (Nat.lt_succ_self _))
  have rr : Vals (V.ref (s.heap.objs.size + 1) :: vs) (Value.ref (s.heap.objs.size + 1) :: us) := .cons rfl r
  have hlen : (Value.ref (s.heap.objs.size + 1) :: us).length = ps.length := by
    rw [← rr.length]
    exact F.len _ _ _ _ at_
  have hbd := hb _ (Value.ref (s.heap.objs.size + 1) :: us) J.kIn (by rw [List.append_nil]; exact hlen)
  rw [List.append_nil] at hbd
  have run := F.run _ X.stack _ _ ⟨Value.ref (s.heap.objs.size + 1) :: us, []⟩ _ _ _ E (hr.make C us []) (J.env0.make C us []) hbd rr at_
  refine wpAny_call (make_map (f := f) I.kIn M.makes M.init (beq_iff_eq.mp M.fn) (codeAny_mono run fun res s' back => ?_))
  match res, back with
  | .error y, back => exact hx pins _ _ y s' J back
  | .ok (.ret u), back =>
    obtain ⟨v, H', J2, ru, ev, q3⟩ := J.after back
    subst ev
    exact ⟨ru, V.ref (s.heap.objs.size + 1), H', J2, rfl, q3⟩
  | .ok .next, back => exact back.elim
  | .ok .brk, back => exact back.elim
  | .ok .cont, back => exact back.elim
theorem new_sp {n : Nat} {mi : List D → Sto → R D} {C : Str} {Ca : Addr} {σ : L2.St} {β : List Addr} {H : Hp} {S : Sto} {ds : List D} {vs : List V} {Q : VK} (hm : X.mg C = some (.ref Ca)) (cl : Cls X.K Ca) (hn : vs.length + 1 = n) (r : Rl X.K X.mg β H S) (hv : Vds X.K X.mg β H vs ds)
    (q : Po X.K X.mg W σ β H (newD C mi ds S) fun d β' _ H' => ∀ v, Vd X.K X.mg β' H' v d → Q v H') :
    ∀ x dx, H x = none → H dx = none → dx ≠ x → spM X.K X.mg n mi (.ref x :: vs) (upd (upd H dx (.own x)) x (.ins Ca dx [])) (fun v H2 => v = .non ∧ Q (.ref x) H2) (WE W σ) := by
  intro x dx h1 h2 h3
  have hx : upd H dx (.own x) x = none := by rw [upd_ne (fun e => h3 e.symm)]; exact h1
  have x1 : Xt X.K β H β (upd H dx (.own x)) := xt_new' h2
  have x2 : Xt X.K β (upd H dx (.own x)) (β ++ [x]) (upd (upd H dx (.own x)) x (.ins Ca dx [])) := xt_new hx
  have r2 : Rl X.K X.mg (β ++ [x]) (upd (upd H dx (.own x)) x (.ins Ca dx [])) (S ++ [.ins C []]) := (r.tup h2).new hx ⟨Ca, dx, [], hm, upd_same, .nil, cl, fun p hp => by cases hp⟩
  have hat : (β ++ [x])[S.length]? = some x := by
    rw [← r.len, List.getElem?_append_right (Nat.le_refl _), Nat.sub_self]
    rfl
  refine call_sp (X := X) (by rw [List.length_cons]; exact hn) r2 (.cons (.ref hat) (hv.ext (x1.trans x2))) ?_
  refine (Po.bind (show Po X.K X.mg W σ _ _ ((mi (.ref S.length :: ds) (S ++ [.ins C []])).bind fun d S2 => match d with
    | .non => R.ok (D.ref S.length) S2
    | _ => R.stuck) _ from Po.xt q (x1.trans x2))).mono fun d β3 S3 H3 x3 r3 q3 v hv3 => ?_
  cases d with
  | non =>
    cases hv3
    exact ⟨rfl, q3 β3 H3 .refl r3 _ (.ref (x3.at' hat))⟩
  | _ => exact q3.elim
theorem me_new {k j n : Nat} {x : Str} {C fa : Addr} {fd : FuncData} {ps : List Str} {mi : List D → Sto → R D} (M : Mk X.K C fa) (cl : Cls X.K C) (F : FnOk X.prog X.w X.K X.mg X.base (L2.CX X.prog X.w) k fa fd ps (spM X.K X.mg n mi)) (hr : Room j X.A) (hm : X.mg x = some (.ref C)) (hb : Binds X.K fd ps []) (tk : Takes X W) (ha : MA X W (e :: es) ma)
    (hl : ∀ β H vs ds ρ S S', Vds X.K X.mg β H vs ds → ma ρ S = .ok ds S' → vs.length + 1 = n) (hkj : k + 1 ≤ j := by decide) (hg : Gl X x := by rfl) (hdb : (x == ("__debug__" : Str)) = false := by decide) (he : starEach (e :: es) X.env = (false, eval e X.env) :: starEach es X.env := by rfl) (hpl : (backTo pos (starEach es X.env)).any (·.1) = false := by rfl) :
    ME X W (.Call (.Name x p) (e :: es) [] pos) (mNew x mi ma) := by
  refine ⟨⟨fun pins s σ H Q I ⟨β, S, ρ, rl, en, p⟩ => wpAny_Call_Name_kw (ld_glob I hg hm ?_ hdb)⟩⟩
  have q := (show Po X.K X.mg W σ β H ((ma ρ S).bind (newD x mi)) _ from p).bind
  have step : tMA X.K X.mg W ma σ H fun vs H1 => ∀ y dy, H1 y = none → H1 dy = none → dy ≠ y → spM X.K X.mg n mi (.ref y :: vs) (upd (upd H1 dy (.own y)) y (.ins C dy [])) (fun v H2 => v = .non ∧ Q (.ref y) H2) (WE W σ) := by
    refine ⟨β, S, ρ, rl, en, ?_⟩
    cases e1 : ma ρ S with
    | ok ds S1 =>
      rw [e1] at q
      exact fun β1 H1 x1 r1 vs hv => new_sp hm cl (hl β1 H1 vs ds ρ S S1 hv e1) r1 hv (q β1 H1 x1 r1)
    | ex z S1 => rw [e1] at q; exact q
    | stuck => rw [e1] at q; exact q
  exact PySem.W.callWith_K (h₀ := X.base) I.ok.mod.kin M.kp (thn (ha.pa.run pos pins s σ H _ I step) fun us s1 ⟨vs, H1, I1, r, h1⟩ => ⟨I1.kIn, new_run M F (hr.mono hkj) hb (passAt tk σ) I1 r h1⟩) he hpl
theorem me_new0 {k j : Nat} {x : Str} {C fa : Addr} {fd : FuncData} {ps : List Str} {mi : List D → Sto → R D} (M : Mk X.K C fa) (cl : Cls X.K C) (F : FnOk X.prog X.w X.K X.mg X.base (L2.CX X.prog X.w) k fa fd ps (spM X.K X.mg 1 mi)) (hr : Room j X.A) (hm : X.mg x = some (.ref C)) (hb : Binds X.K fd ps []) (tk : Takes X W)
    (hkj : k + 1 ≤ j := by decide) (hg : Gl X x := by rfl) (hdb : (x == ("__debug__" : Str)) = false := by decide) : ME X W (.Call (.Name x p) [] [] pos) (mNew x mi mNil) := by
  refine ⟨⟨fun pins s σ H Q I ⟨β, S, ρ, rl, en, p⟩ => wpAny_Call_Name_kw (ld_glob I hg hm ?_ hdb)⟩⟩
  have q : Po X.K X.mg W σ β H (newD x mi [] S) _ := p
  exact PySem.W.callWith_K0 I.kIn M.kp (new_run (us := []) M F (hr.mono hkj) hb (passAt tk σ) I .nil (new_sp hm cl rfl rl .nil q))
/-! ### o.m(..) -/
abbrev MTab := List (Str × (List D → Sto → R D))
/-- the class's own method, or the one that it inherits -/
def disp (tab : MTab) (m : Str) (o : D) (S : Sto) : Option (List D → Sto → R D) := match o with
  | .ref n => match S[n]? with
    | some (.ins C fs) => if (fs.lookup m).isNone then tab.lookup C else none
    | _ => none
  | _ => none
def mMeth (tab : MTab) (m : Str) (mo : Mx) (ma : Ma) : Mx := fun ρ S => (mo ρ S).bind fun o S1 => match disp tab m o S1 with
  | some g => (ma ρ S1).bind fun ds S2 => g (o :: ds) S2
  | none => .stuck
/-- each class of the table has the method m, and it does what the table says -/
structure TabOk (X : Cx) (j n : Nat) (m : Str) (tab : MTab) : Prop where
  has : ∀ C g, tab.lookup C = some g → ∀ Ca, X.mg C = some (.ref Ca) → ∃ (k : Nat) (fa : Addr) (fd : FuncData) (ps : List Str), Meth X.K Ca m fa ∧ FnOk X.prog X.w X.K X.mg X.base (L2.CX X.prog X.w) k fa fd ps (spM X.K X.mg n g) ∧ k ≤ j ∧ Binds X.K fd ps []
theorem tab_nil {j n : Nat} {m : Str} : TabOk X j n m [] := ⟨fun _ _ h => by cases h⟩
theorem tab_cons {j n k : Nat} {m C : Str} {Ca fa : Addr} {fd : FuncData} {ps : List Str} {g : List D → Sto → R D} {tab : MTab} (hm : X.mg C = some (.ref Ca)) (me : Meth X.K Ca m fa) (F : FnOk X.prog X.w X.K X.mg X.base (L2.CX X.prog X.w) k fa fd ps (spM X.K X.mg n g)) (b : Binds X.K fd ps []) (t : TabOk X j n m tab) (hkj : k ≤ j := by decide) : TabOk X j n m ((C, g) :: tab) := by
  refine ⟨fun C' g' h Ca' hm' => ?_⟩
  rw [List.lookup_cons] at h
  cases q : C' == C with
  | true =>
    rw [q] at h
    cases h
    have e : C' = C := eq_of_beq q
    rw [e, hm] at hm'
    cases hm'
    exact ⟨k, fa, fd, ps, me, F, hkj, b⟩
  | false => rw [q] at h; exact t.has C' g' h Ca' hm'
theorem disp_ok {tab : MTab} {j n : Nat} {mn : Str} {β : List Addr} {H : Hp} {S : Sto} {od : D} {v : V} {g : List D → Sto → R D} (t : TabOk X j n mn tab) (r : Rl X.K X.mg β H S) (hv : Vd X.K X.mg β H v od) (e : disp tab mn od S = some g) :
    ∃ (a Ca dx : Addr) (xs : List (Str × V)) (k : Nat) (fa : Addr) (fd : FuncData) (ps : List Str), v = .ref a ∧ H a = some (.ins Ca dx xs) ∧ Cls X.K Ca ∧ xs.lookup mn = none ∧ Meth X.K Ca mn fa ∧ FnOk X.prog X.w X.K X.mg X.base (L2.CX X.prog X.w) k fa fd ps (spM X.K X.mg n g) ∧ k ≤ j ∧ Binds X.K fd ps [] := by
  unfold disp at e
  cases od with
  | ref i =>
    obtain ⟨a, rfl, h1⟩ := hv.ref_inv
    dsimp only at e
    cases e1 : S[i]? with
    | none => rw [e1] at e; cases e
    | some ob =>
      rw [e1] at e
      cases ob with
      | ins C fs =>
        dsimp only at e
        split at e
        · rename_i hn
          obtain ⟨Ca, dx, xs, g1, g2, g3, g4, g5⟩ := ins_of r h1 e1
          obtain ⟨k, fa, fd, ps, t1, t2, t3, t4⟩ := t.has C g e Ca g1
          exact ⟨a, Ca, dx, xs, k, fa, fd, ps, rfl, g2, g4, g3.look0 (Option.isNone_iff_eq_none.mp hn), t1, t2, t3, t4⟩
        · cases e
      | _ => cases e
  | _ => cases e
theorem me_meth {pl : Sem Bool} {tab : MTab} {j n : Nat} {mn : Str} (t : TabOk X j n mn tab) (hr : Room j X.A) (ho : ME X W o mo) (tk : Takes X W) (ha : MA X W (e :: es) ma) (hl : ∀ β H vs ds ρ S S', Vds X.K X.mg β H vs ds → ma ρ S = .ok ds S' → vs.length + 1 = n)
    (he : starEach (e :: es) X.env = (false, eval e X.env) :: starEach es X.env := by rfl) (hpl : (backTo pos (starEach es X.env)).any (·.1) = false := by rfl)
    (ht : eval (.Call (.Attribute o mn apos) (e :: es) [] pos) X.env = ((eval o X.env).bind fun ov => (standAt apos.atName).bind fun _ => (holding [ov] (getMethod ov mn pl)).bind fun q => callWith pos q.1 q.2 (backTo pos (starEach (e :: es) X.env)) (backToKw pos (keywordEach [] X.env))) := by rfl) :
    ME X W (.Call (.Attribute o mn apos) (e :: es) [] pos) (mMeth tab mn mo ma) := by
  refine ⟨⟨fun pins s σ H Q I ⟨β, S, ρ, rl, en, p⟩ => ?_⟩⟩
  have q := (show Po X.K X.mg W σ β H ((mo ρ S).bind fun o S1 => match disp tab mn o S1 with
    | some g => (ma ρ S1).bind fun ds S2 => g (o :: ds) S2
    | none => .stuck) _ from p).bind
  have step : tM X.K X.mg W mo σ H fun x H1 => ∃ β1 S1 od g, Rl X.K X.mg β1 H1 S1 ∧ En X.K X.mg β1 H1 ρ σ ∧ Vd X.K X.mg β1 H1 x od ∧ disp tab mn od S1 = some g ∧ Po X.K X.mg W σ β1 H1 ((ma ρ S1).bind fun ds S2 => g (od :: ds) S2) fun d β' _ H' => ∀ v, Vd X.K X.mg β' H' v d → Q v H' := by
    refine ⟨β, S, ρ, rl, en, q.mono fun od β1 S1 H1 x1 r1 q1 v hv => ?_⟩
    cases e1 : disp tab mn od S1 with
    | none => rw [e1] at q1; exact q1.elim
    | some g => rw [e1] at q1; exact ⟨β1, S1, od, g, r1, en.ext x1, hv, e1, q1⟩
  refine PySem.W.methodCall_KW (pl := pl) (thn (ho.pe.run pins s σ H _ I step) fun u s1 ⟨x, H1, I1, rx, β1, S1, od, g, r1, en1, hv, e1, q1⟩ => ?_) ht
  obtain ⟨a, Ca, dx, xs, k, fa, fd, ps, ex, ea, cl, l0, me, F, hkj, hb⟩ := disp_ok t r1 hv e1
  subst ex
  obtain rfl : u = Value.ref a := rx
  refine getmeth_ok I1 ea cl me l0 ?_
  have q2 := q1.bind
  have step2 : tMA X.K X.mg W ma σ H1 fun vs H2 => spM X.K X.mg n g (.ref a :: vs) H2 Q (WE W σ) := by
    refine ⟨β1, S1, ρ, r1, en1, ?_⟩
    cases e2 : ma ρ S1 with
    | ok ds S2 =>
      rw [e2] at q2
      exact fun β2 H2 x2 r2 vs hvs => call_sp (X := X) (by rw [List.length_cons]; exact hl β2 H2 vs ds ρ S1 S2 hvs e2) r2 (.cons (hv.ext x2) hvs) (q2 β2 H2 x2 r2)
    | ex z S2 => rw [e2] at q2; exact q2
    | stuck => rw [e2] at q2; exact q2
  exact PySem.W.callWith_K (first := [.ref a]) (h₀ := X.base) I.ok.mod.kin me.kp (thn (ha.pa.run pos pins s1 σ H1 _ I1 step2) fun us s2 ⟨vs, H2, I2, r, h2⟩ => ⟨I2.kIn, run_fnS (E := WE W) (us := .ref a :: us) (vs := .ref a :: vs) F (hr.mono hkj) hb (passAt tk σ) I2 (.cons rfl r) h2⟩) he hpl
theorem me_meth0 {pl : Sem Bool} {tab : MTab} {j : Nat} {mn : Str} (t : TabOk X j 1 mn tab) (hr : Room j X.A) (ho : ME X W o mo) (tk : Takes X W)
    (ht : eval (.Call (.Attribute o mn apos) [] [] pos) X.env = ((eval o X.env).bind fun ov => (standAt apos.atName).bind fun _ => (holding [ov] (getMethod ov mn pl)).bind fun q => callWith pos q.1 q.2 (backTo pos (starEach [] X.env)) (backToKw pos (keywordEach [] X.env))) := by rfl) :
    ME X W (.Call (.Attribute o mn apos) [] [] pos) (mMeth tab mn mo mNil) := by
  refine ⟨⟨fun pins s σ H Q I ⟨β, S, ρ, rl, en, p⟩ => ?_⟩⟩
  have q := (show Po X.K X.mg W σ β H ((mo ρ S).bind fun o S1 => match disp tab mn o S1 with
    | some g => g [o] S1
    | none => .stuck) _ from p).bind
  have step : tM X.K X.mg W mo σ H fun x H1 => ∃ β1 S1 od g, Rl X.K X.mg β1 H1 S1 ∧ Vd X.K X.mg β1 H1 x od ∧ disp tab mn od S1 = some g ∧ Po X.K X.mg W σ β1 H1 (g [od] S1) fun d β' _ H' => ∀ v, Vd X.K X.mg β' H' v d → Q v H' := by
    refine ⟨β, S, ρ, rl, en, q.mono fun od β1 S1 H1 x1 r1 q1 v hv => ?_⟩
    cases e1 : disp tab mn od S1 with
    | none => rw [e1] at q1; exact q1.elim
    | some g => rw [e1] at q1; exact ⟨β1, S1, od, g, r1, hv, e1, q1⟩
  refine PySem.W.methodCall_KW (pl := pl) (thn (ho.pe.run pins s σ H _ I step) fun u s1 ⟨x, H1, I1, rx, β1, S1, od, g, r1, hv, e1, q1⟩ => ?_) ht
  obtain ⟨a, Ca, dx, xs, k, fa, fd, ps, ex, ea, cl, l0, me, F, hkj, hb⟩ := disp_ok t r1 hv e1
  subst ex
  obtain rfl : u = Value.ref a := rx
  refine getmeth_ok I1 ea cl me l0 ?_
  exact PySem.W.callWith_K0 (first := [.ref a]) I1.kIn me.kp (run_fnS (E := WE W) (us := [.ref a]) (vs := [.ref a]) F (hr.mono hkj) hb (passAt tk σ) I1 (.cons rfl .nil) (call_sp (X := X) rfl r1 (.cons hv .nil) q1))
end
end Eng
namespace Eng
open PySem PySem.Spec PyProof.Rows L2
variable [TabCfg]
section
variable {K : PySem.W.Frag} {mg : Str → Option Value} {f C : Str} {cs : List Str} {Ca : Addr}
theorem fld_nil : FldC K mg [] f := ⟨fun _ h => by cases h⟩
theorem fld_cons (hm : mg C = some (.ref Ca)) (n : PySem.W.findIn K (.ref Ca) f = some none) (r : FldC K mg cs f) : FldC K mg (C :: cs) f := ⟨fun C' h Ca' hm' => by
  rcases List.mem_cons.mp h with h | h
  · rw [h, hm] at hm'
    cases hm'
    exact n
  · exact r.no C' h Ca' hm'⟩
end
/-- the j-th statement of a class's body -/
def clsS (s : Stmt) (j : Nat) : Stmt := match s with
  | .ClassDef _ _ _ b _ _ _ _ _ _ _ => b.getD j (.Pass ⟨0, 0, 0, 0⟩)
  | s => s
end Eng
namespace Eng
open PySem PySem.Spec PyProof.Rows L2
variable [TabCfg]
theorem len_more {X : Cx} {ma : Ma} {n : Nat} (h : ∀ β H vs ds ρ S S', Vds X.K X.mg β H vs ds → ma ρ S = .ok ds S' → vs.length = n) : ∀ β H vs ds ρ S S', Vds X.K X.mg β H vs ds → ma ρ S = .ok ds S' → vs.length + 1 = n + 1 := fun β H vs ds ρ S S' a b => by rw [h β H vs ds ρ S S' a b]
end Eng

/-! The engine, part 18: rows for simp about classes; texts that are written. -/
namespace Eng
open PySem PySem.Spec PyProof.Rows L2
variable [TabCfg]
theorem ofString_inj {a b : String} (h : Str.ofString a = Str.ofString b) : a = b := by
  rw [Str.ofString_eq_toList, Str.ofString_eq_toList] at h
  have e : a.toList.map Char.toNat = b.toList.map Char.toNat := by
    have := congrArg (fun z : Str => z.cps.toList) h
    simpa using this
  have inj : Function.Injective Char.toNat := fun x y e => Char.toNat_inj.mp e
  exact String.toList_inj.mp ((List.map_inj_right (fun x y e => inj e)).mp e)
@[simp] theorem lit_eq {a b : String} : (Str.ofString a = Str.ofString b) ↔ a = b := ⟨ofString_inj, fun h => by rw [h]⟩
@[simp] theorem lit_beq {a b : String} : (Str.ofString a == Str.ofString b) = (a == b) := by
  rw [Bool.eq_iff_iff, beq_iff_eq, beq_iff_eq]
  exact lit_eq
section
variable {ρ : Env'} {S : Sto} {m mo mv : Mx} {ma : Ma} {f C : Str} {cs : List Str} {n : Nat} {d : D} {ds : List D} {mi : List D → Sto → R D} {tab : MTab}
@[simp] theorem ev_fld : mFld m f ρ S = (m ρ S).bind (fldD f) := rfl
@[simp] theorem fldD_ref : fldD f (.ref n) S = match S[n]? with
    | some (.ins _ fs) => match fs.lookup f with
      | some v => .ok v S
      | none => .stuck
    | _ => .stuck := rfl
@[simp] theorem ev_sfld : sFld cs mo f mv ρ S = (mv ρ S).st ρ fun d S1 => (mo ρ S1).st ρ fun o S2 => match setFld cs f o d S2 with
  | some S3 => .fl (.nx ρ) S3
  | none => .stuck := rfl
@[simp] theorem setFld_ref : setFld cs f (.ref n) d S = match S[n]? with
    | some (.ins C fs) => if C ∈ cs ∧ fs.length < 1000 then some (S.set n (.ins C (putO f d fs))) else none
    | _ => none := rfl
@[simp] theorem putO_nil : putO f d [] = [(f, d)] := rfl
@[simp] theorem putO_cons {g : Str} {x : D} {r : List (Str × D)} : putO f d ((g, x) :: r) = if g = f then (g, d) :: r else (g, x) :: putO f d r := rfl
@[simp] theorem ev_new : mNew C mi ma ρ S = (ma ρ S).bind (newD C mi) := rfl
@[simp] theorem newD_ev : newD C mi ds S = (mi (.ref S.length :: ds) (S ++ [.ins C []])).bind fun d S2 => match d with
  | .non => .ok (.ref S.length) S2
  | _ => .stuck := rfl
@[simp] theorem ev_meth : mMeth tab f mo ma ρ S = (mo ρ S).bind fun o S1 => match disp tab f o S1 with
  | some g => (ma ρ S1).bind fun ds S2 => g (o :: ds) S2
  | none => .stuck := rfl
@[simp] theorem disp_ref : disp tab f (.ref n) S = match S[n]? with
    | some (.ins C fs) => if (fs.lookup f).isNone then tab.lookup C else none
    | _ => none := rfl
end
end Eng

/-! The engine, part 19: tuples of whole numbers and texts as keys and in lists. -/
namespace Eng
open PySem PySem.Spec PyProof.Rows L2
variable [TabCfg]
def keyP : D → Key
  | .int i => .inl i
  | .str z => .inr z
  | _ => .inl 0
theorem keysD_pts : ∀ xs : List D, (∀ d ∈ xs, isPt d = true) → keysD xs = some (xs.map keyP)
  | [], _ => rfl
  | d :: r, h => by
    have h1 := h d (List.mem_cons_self ..)
    unfold keysD
    rw [keysD_pts r fun x hx => h x (List.mem_cons_of_mem _ hx)]
    cases d with
    | int i => rfl
    | str z => rfl
    | _ => cases h1
theorem keyP_inj {d e : D} (h : isPt d = true) (h2 : isPt e = true) (k : keyP d = keyP e) : d = e := by
  cases d <;> first | (cases h; done) | skip
  all_goals cases e <;> first | (cases h2; done) | skip
  all_goals simp [keyP] at k
  all_goals rw [k]
theorem keysP_inj : ∀ {xs ys : List D}, (∀ d ∈ xs, isPt d = true) → (∀ d ∈ ys, isPt d = true) → xs.map keyP = ys.map keyP → xs = ys
  | [], [], _, _, _ => rfl
  | [], y :: ys, _, _, e => by cases e
  | x :: xs, [], _, _, e => by cases e
  | x :: xs, y :: ys, h1, h2, e => by
    rw [List.map_cons, List.map_cons] at e
    injection e with e1 e2
    rw [keyP_inj (h1 x (List.mem_cons_self ..)) (h2 y (List.mem_cons_self ..)) e1, keysP_inj (fun d hd => h1 d (List.mem_cons_of_mem _ hd)) (fun d hd => h2 d (List.mem_cons_of_mem _ hd)) e2]
section
variable {κ : Type} [DecidableEq κ]
theorem valD_nil (k : κ) : valD [] k = none := rfl
theorem valD_cons (k k' : κ) (d : D) (r : List (κ × D)) : valD ((k, d) :: r) k' = if k = k' then some d else valD r k' := by
  unfold valD
  rw [List.find?_cons]
  by_cases h : k = k'
  · rw [decide_eq_true h, if_pos h]
    rfl
  · rw [decide_eq_false h, if_neg h]
theorem valD_app (k' : κ) (d : D) (k : κ) : ∀ r : List (κ × D), valD (r ++ [(k, d)]) k' = (valD r k').or (if k = k' then some d else none)
  | [] => by rw [List.nil_append, valD_cons]; rfl
  | (j, v) :: r => by
    rw [List.cons_append, valD_cons, valD_cons, valD_app k' d k r]
    split <;> rfl
theorem valD_any (k : κ) : ∀ r : List (κ × D), (r.any fun kv => decide (kv.1 = k)) = (valD r k).isSome
  | [] => rfl
  | (j, v) :: r => by
    rw [List.any_cons, valD_cons, valD_any k r]
    by_cases h : j = k
    · rw [decide_eq_true h, if_pos h]; rfl
    · rw [decide_eq_false h, if_neg h, Bool.false_or]
theorem valD_map (k k' : κ) (d : D) : ∀ r : List (κ × D), valD (r.map fun kv => if kv.1 = k then (kv.1, d) else kv) k' = if k' = k then (valD r k').map fun _ => d else valD r k'
  | [] => by rw [List.map_nil, valD_nil]; split <;> rfl
  | (j, v) :: r => by
    rw [List.map_cons]
    by_cases hj : j = k
    · rw [if_pos hj, valD_cons, valD_cons, valD_map k k' d r]
      by_cases h : j = k'
      · rw [if_pos h, if_pos h, if_pos (by rw [← h, hj])]; rfl
      · rw [if_neg h, if_neg h]
    · rw [if_neg hj, valD_cons, valD_cons, valD_map k k' d r]
      by_cases h : j = k'
      · rw [if_pos h, if_pos h, if_neg (by rw [← h]; exact hj)]
      · rw [if_neg h, if_neg h]
theorem valD_put (r : List (κ × D)) (k k' : κ) (d : D) : valD (putD r k d) k' = if k' = k then some d else valD r k' := by
  unfold putD
  rw [valD_any]
  cases q : valD r k with
  | some v =>
    rw [Option.isSome_some, if_pos rfl, valD_map]
    by_cases h : k' = k
    · rw [if_pos h, if_pos h, h, q]; rfl
    · rw [if_neg h, if_neg h]
  | none =>
    rw [Option.isSome_none, if_neg (by decide), valD_app]
    by_cases h : k' = k
    · rw [if_pos h, h, q, if_pos rfl]
      rfl
    · rw [if_neg h, if_neg (show ¬ k = k' from fun e => h e.symm), Option.or_none]
theorem putD_len (r : List (κ × D)) (k : κ) (d : D) : (putD r k d).length = if (valD r k).isSome = true then r.length else r.length + 1 := by
  unfold putD
  rw [valD_any]
  split
  · rw [List.length_map]
  · rw [List.length_append, List.length_singleton]
theorem putD_le (r : List (κ × D)) (k : κ) (d : D) : (putD r k d).length ≤ r.length + 1 := by
  rw [putD_len]
  split <;> omega
end
/-! tuples in a list -/
theorem toPy_tup {S : Sto} {n : Nat} {xs : List D} (h : ∀ d ∈ xs, isPt d = true) : toPy S (n + 1) (.tup xs) = some (.tuple (xs.map ptPy)) := by
  unfold toPy
  rw [toPys_pts xs h]
  rfl
theorem toPys_tups {S : Sto} {n : Nat} : ∀ ts : List (List D), (∀ t ∈ ts, ∀ d ∈ t, isPt d = true) → toPys S (n + 1) (ts.map D.tup) = some (ts.map fun t => .tuple (t.map ptPy))
  | [], _ => by rw [List.map_nil, toPys]; rfl
  | t :: r, h => by
    rw [List.map_cons, toPys, toPys_tups r fun x hx => h x (List.mem_cons_of_mem _ hx), toPy_tup (h t (List.mem_cons_self ..))]
    rfl
theorem canLay_tups : ∀ ts : List (List D), (∀ t ∈ ts, ∀ d ∈ t, okPt d = true) → PyData.canLayAll0 (ts.map fun t => .tuple (t.map ptPy)) = true
  | [], _ => by simp [PyData.canLayAll0]
  | t :: r, h => by
    rw [List.map_cons, PyData.canLayAll0, canLay_tups r fun x hx => h x (List.mem_cons_of_mem _ hx), PyData.canLay0, canLay_pts t (h t (List.mem_cons_self ..))]
    rfl
theorem depth_tups : ∀ ts : List (List D), PyData.depthAll (ts.map fun t => .tuple (t.map ptPy)) ≤ 1
  | [] => by simp [PyData.depthAll]
  | t :: r => by
    have := depth_tups r
    rw [List.map_cons, PyData.depthAll, PyData.depth, depth_pts]
    omega
theorem shaped_tup {xs : List D} (h : ∀ d ∈ xs, okPt d = true) : SeqAt.shaped (.tuple (xs.map ptPy)) = true := by
  unfold SeqAt.shaped
  rw [PyData.canLay0, canLay_pts xs h, PyData.depth, depth_pts]
  rfl
theorem shaped_tups {ts : List (List D)} (h : ∀ t ∈ ts, ∀ d ∈ t, okPt d = true) : SeqAt.shaped (.list (ts.map fun t => .tuple (t.map ptPy))) = true := by
  unfold SeqAt.shaped
  have := depth_tups ts
  rw [PyData.canLay0, canLay_tups ts h, PyData.depth, Bool.true_and]
  exact decide_eq_true (by omega)
theorem eqv_tup {xs ys : List D} (h1 : ∀ d ∈ xs, isPt d = true) (h2 : ∀ d ∈ ys, isPt d = true) : PyData.eqv (.tuple (xs.map ptPy)) (.tuple (ys.map ptPy)) = true ↔ xs = ys := by
  rw [PyData.eqv]
  exact eqvAll_pts xs ys h1 h2
theorem inD_tups {S : Sto} {n : Nat} {xs : List D} {ts : List (List D)} (hl : lstAt S n = some (ts.map D.tup)) (h1 : ∀ d ∈ xs, isPt d = true) (h2 : ∀ t ∈ ts, ∀ d ∈ t, isPt d = true) (k1 : ∀ d ∈ xs, okPt d = true) (k2 : ∀ t ∈ ts, ∀ d ∈ t, okPt d = true) : ∃ b, inD (.tup xs) (.ref n) S = some b ∧ (b = true ↔ xs ∈ ts) := by
  have e2 : toPy S 64 (.ref n) = some (.list (ts.map fun t => .tuple (t.map ptPy))) := by
    rw [toPy, hl]
    dsimp only
    rw [toPys_tups ts h2]
    rfl
  refine ⟨(ts.map fun t => PyData.tuple (t.map ptPy)).any fun z => PyData.eqv z (.tuple (xs.map ptPy)), ?_, ?_⟩
  · unfold inD
    dsimp only
    rw [hl]
    dsimp only
    have e1 : inSeq S (.tup xs) (ts.map D.tup) = none := by
      unfold inSeq flatD
      rfl
    rw [e1]
    dsimp only
    unfold inDeep
    rw [e2, toPy_tup h1]
    dsimp only
    rw [shaped_tup k1, shaped_tups k2]
    rfl
  · rw [List.any_map, List.any_eq_true]
    constructor
    · rintro ⟨t, ht, e⟩
      have := (eqv_tup (h2 t ht) h1).mp e
      rw [← this]
      exact ht
    · intro h
      exact ⟨xs, h, (eqv_tup h1 h1).mpr rfl⟩
end Eng

set_option maxHeartbeats 2000000
/-! The engine, part 20: what a nested def or a lambda promises. -/
namespace Eng
open PySem PySem.Spec PyProof.Rows L2
variable [TabCfg]
/-- the same words, as the library has them -/
abbrev NW.nf (W : NW) (b : List Stmt) (cl : List (Str × Addr)) (c : Addr) : NdefX.NF := ⟨W.name, W.qual, W.params, b, W.scope, cl, c⟩
/-- the promise of a function with the words W: sp ws, ws what its cells hold -/
structure NQ (P : Program) (w : World) (K : PySem.W.Frag) (mg : Str → Option Value) (base : Heap) (k : Nat) (W : NW) (np : Nat) (m : List D → Sto → R D) : Prop where
  run : ∀ (f : Addr) (cl : List (Str × Addr)) (c : Addr) (A : Around) (outer : List Env) (s : Shared) (H : Hp) (us : List Value) (vs ws : List V) (Q : VK) (E : XK), Room k A → Env0 P w K mg base A outer s H → H f = some (FnQ f W cl c) → H c = some (LamX.CodeO c W.qual) →
    NdefX.CellsAt cl W.fr (ws.map some) s.heap H → Vals vs us → vs.length = np → spM K mg (np + W.fr.length) m (vs ++ ws) H Q E → codeAny (model P w) A (.call (.ref f) ⟨us, []⟩) (CR (L2.CX P w) outer P w H s Q E) s
theorem fnq_stmts {W : NW} {b : List Stmt} (h : W.body = .stmts b) (f : Addr) (cl : List (Str × Addr)) (c : Addr) : FnQ f W cl c = NdefX.FnO f (W.nf b cl c) := by
  unfold FnQ NdefX.FnO NW.fd NdefX.NF.fd
  rw [h]
theorem fnq_at {P : Program} {w : World} {H : Hp} {h : Heap} {f : Addr} {W : NW} {cl : List (Str × Addr)} {c : Addr} (hok : HOk P w H h) (e : H f = some (FnQ f W cl c)) : ∃ (od : Option Addr) (sl : Array (Option Value)) (doc pm ctv : Value), h.get? f = some (⟨.type "function", od, .func (W.fd cl c doc pm ctv), sl⟩ : Obj) := by
  obtain ⟨z, _, _⟩ := hok f _ e
  exact z
section
variable {P : Program} {w : World} {K : PySem.W.Frag} {mg : Str → Option Value} {base : Heap} {k j : Nat} {W : NW} {N ps : List Str}
theorem NQ.mono {np : Nat} {m : List D → Sto → R D} (o : NQ P w K mg base j W np m) (h : j ≤ k) : NQ P w K mg base k W np m := ⟨fun f cl c A outer s H us vs ws Q E hr => o.run f cl c A outer s H us vs ws Q E (hr.mono h)⟩
theorem startF_eq {N : List Str} {vs ws : List V} : NdefX.startF N vs (ws.map some) = L2.start N (vs ++ ws) := by
  unfold NdefX.startF L2.start
  rw [List.length_map, List.map_append, List.append_assoc, List.length_append, Nat.sub_sub]
/-- a nested def by its body -/
theorem nq_def {b : List Stmt} {mb : Ms} (hW : W.body = .stmts b) (S : NdefX.NScope N ps W.fr W.scope)
    (hb : ∀ (cl : List (Str × Addr)) (c : Addr) (doc pm ctv : Value) (us : List Value), us.length = ps.length → bindArgs ((W.nf b cl c).fd doc pm ctv) ⟨us, []⟩ = pure (ps.zip us))
    (h : ∀ (f : Addr) (cl : List (Str × Addr)) (c : Addr) (A : Around) (outer : List Env) (s : Shared) (H : Hp) (E : XK), Room k (A.deeper (NdefX.envF (W.nf b cl c) f s.heap.objs.size)) →
      MSs (NdefX.ncx (L2.CX P w) P w K mg base N (W.nf b cl c) f A outer s H E) (fun cls d _ H => E cls d H) b mb) : NQ P w K mg base (k + 1) W ps.length (mDef N.length mb) := by
  refine ⟨fun f cl c A outer s H us vs ws Q E hr e0 hf hc C r hl hsp => ?_⟩
  have n := NdefX.nok_of (CX := L2.CX P w) (P := P) (w := w) (K := K) (mg := mg) (base := base) (k := k) (N := N) (ps := ps) (fr := W.fr) (F := W.nf b cl c) (f := f)
    (sp := fun os us H' Q' E' => us = vs ∧ os = ws.map some ∧ spM K mg (ps.length + W.fr.length) (mDef N.length mb) (vs ++ ws) H' Q' E') S (hb cl c) (fun os us H' Q' E' z => by rw [z.1]; exact hl)
    fun A' outer' s' H' vs' ws' Q' E' hr' _ _ _ ⟨z1, z2, z3⟩ => by
      obtain ⟨hn, β, S', ds, rl, hv, q⟩ := z3
      refine ⟨_, (h f cl c A' outer' s' H' E' hr').ps, β, S', ds.map some ++ List.replicate (N.length - ds.length) none, rl, ?_, ?_⟩
      · rw [z1, z2, startF_eq]
        exact en_start hv
      · unfold mDef at q
        show PoS K mg _ β H' (mb (ds.map some ++ List.replicate (N.length - ds.length) none) S') _
        cases e : mb (ds.map some ++ List.replicate (N.length - ds.length) none) S' with
        | fl g S2 =>
          rw [e] at q
          cases g with
          | nx ρ => exact fun β' H2 σ' x r _ => q β' H2 .non x r .non
          | rt d => exact fun β' H2 v x r hv => q β' H2 v x r hv
        | ex x ρ S2 => rw [e] at q; exact fun cls od β' H2 σ' y r _ hx => q cls od β' H2 y r hx
        | stuck => rw [e] at q; exact q
  exact n.run A outer s H us vs (ws.map some) Q E hr e0 (by rw [← fnq_stmts hW]; exact hf) hc C r ⟨rfl, rfl, hsp⟩
/-- a lambda by its body -/
theorem nq_lam {e : Expr} {m : Mx} (hW : W.body = .expr e) (S : NdefX.NScope N ps W.fr W.scope)
    (hb : ∀ (cl : List (Str × Addr)) (c : Addr) (doc pm ctv : Value) (us : List Value), us.length = ps.length → bindArgs (W.fd cl c doc pm ctv) ⟨us, []⟩ = pure (ps.zip us))
    (h : ∀ (f : Addr) (cl : List (Str × Addr)) (c : Addr) (A : Around) (outer : List Env) (s : Shared) (H : Hp) (E : XK), Room k (A.deeper (NdefX.envF (W.nf [] cl c) f s.heap.objs.size)) →
      ME (NdefX.ncx (L2.CX P w) P w K mg base N (W.nf [] cl c) f A outer s H E) (fun cls d _ H => E cls d H) e m) : NQ P w K mg base (k + 1) W ps.length (mDef N.length (sRet m)) := by
  refine ⟨fun f cl c A outer s H us vs ws Q E hr e0 hf hc C r hl hsp => ?_⟩
  have lim : s.heap.NoLimit := e0.mod.nolimit.keeps fun b o e => (e0.bs b o e).1
  obtain ⟨od, sl, doc, pm, ctv, ho⟩ := fnq_at e0.hok hf
  refine PySem.W.kla_callFunE hr.depth ho rfl S.co S.gen hW (NdefX.codeO_at e0.hok hc) ?_
  rw [hb cl c doc pm ctv us (by rw [← r.length]; exact hl)]
  refine wpAny_pure (wpAny_newFunctionEnv S.nocell (fun ⟨n, _⟩ hy => S.par n (List.of_mem_zip hy).1) (fun h₁ hns hsb => ⟨lim.fresh _ hsb, ?_⟩) S.kind)
  show codeAny _ _ (.expr e (NdefX.envF (W.nf [] cl c) f s.heap.objs.size)) _ _
  have kp : ∀ b o, s.heap.get? b = some o → h₁.get? b = some o := fun b o e => hsb.extBut b o (Nat.ne_of_lt (Heap.lt_size e)) (Heap.get?_push_of_some _ e)
  have I : Inv (NdefX.ncx (L2.CX P w) P w K mg base N (W.nf [] cl c) f A outer s H E) [] (NdefX.startF N vs (ws.map some)) H { s with heap := h₁, toks := s.toks + (ps.zip us).length } := NdefX.inv_startN S hr.hd e0 hl r C hns kp
  obtain ⟨hn, β, S', ds, rl, hv, q⟩ := hsp
  have pe := (h f cl c A outer s H E (hr.deeper _)).pe
  have t : tM K mg (fun cls d _ H => E cls d H) m (NdefX.startF N vs (ws.map some)) H Q := by
    refine ⟨β, S', ds.map some ++ List.replicate (N.length - ds.length) none, rl, by rw [startF_eq]; exact en_start hv, ?_⟩
    unfold mDef sRet at q
    cases e : m (ds.map some ++ List.replicate (N.length - ds.length) none) S' with
    | ok d S2 => rw [e] at q; exact fun β' H2 x r v hv => q β' H2 v x r hv
    | ex x S2 => rw [e] at q; exact fun cls od β' H2 y r hx => q cls od β' H2 y r hx
    | stuck => rw [e] at q; exact q
  refine PySem.W.kla_codeExpr (wpAny_mono (pe.run [] _ _ H Q I t) (fun v s' hq => ?_) fun e' s' hq => hq)
  obtain ⟨w', H', J', rv, q'⟩ := hq
  exact ⟨w', H', J'.os, J'.bare, J'.base, J'.hok, rv, q'⟩
end
end Eng

set_option maxHeartbeats 2000000
/-! The engine, part 21: a call of a function that lies in the store. -/
namespace Eng
open PySem PySem.Spec PyProof.Rows L2
/-! ### cells opened and closed, in the store -/
def celsD (S : Sto) : List Nat → Option (List D)
  | [] => some []
  | n :: r => match S[n]?, celsD S r with
    | some (.cel d), some ds => some (d :: ds)
    | _, _ => none
def openD (S : Sto) : List Nat → Sto
  | [] => S
  | n :: r => openD (S.set n .opn) r
/-- as they were in S -/
def closeC (S : Sto) (S' : Sto) : List Nat → Sto
  | [] => S'
  | n :: r => closeC S (match S[n]? with
    | some o => S'.set n o
    | none => S') r
theorem openD_len : ∀ (ns : List Nat) (S : Sto), (openD S ns).length = S.length
  | [], _ => rfl
  | n :: r, S => by rw [openD, openD_len r, List.length_set]
theorem openD_get : ∀ (ns : List Nat) (S : Sto) (m : Nat), (openD S ns)[m]? = if m ∈ ns then (S[m]?).map fun _ => .opn else S[m]?
  | [], _, _ => by simp [openD]
  | n :: r, S, m => by
    rw [openD, openD_get r]
    by_cases h : m = n
    · subst h
      by_cases hl : m < S.length
      · rw [List.getElem?_set_self hl, List.getElem?_eq_getElem hl]
        simp
      · rw [List.getElem?_eq_none (by rw [List.length_set]; omega), List.getElem?_eq_none (by omega)]
        simp
    · rw [List.getElem?_set_ne (fun e => h e.symm)]
      simp [h]
theorem closeC_len : ∀ (ns : List Nat) (S S' : Sto), (closeC S S' ns).length = S'.length
  | [], _, _ => rfl
  | n :: r, S, S' => by
    rw [closeC, closeC_len r]
    cases S[n]? with
    | none => rfl
    | some o => exact List.length_set ..
theorem closeC_out : ∀ (ns : List Nat) (S S' : Sto) (m : Nat), m ∉ ns → (closeC S S' ns)[m]? = S'[m]?
  | [], _, _, _, _ => rfl
  | n :: r, S, S', m, h => by
    rw [closeC, closeC_out r _ _ m (fun z => h (List.mem_cons_of_mem _ z))]
    have : n ≠ m := fun z => h (by rw [z]; exact List.mem_cons_self ..)
    cases S[n]? with
    | none => rfl
    | some o => exact List.getElem?_set_ne this
theorem closeC_in (S : Sto) (m : Nat) (o u : Ob) (e : S[m]? = some o) : ∀ (ns : List Nat) (S' : Sto), m ∈ ns → (closeC S S' ns)[m]? = some u → u = o := by
  intro ns
  induction ns with
  | nil => intro S' h; cases h
  | cons n r ih =>
    intro S' h e2
    by_cases hr : m ∈ r
    · exact ih _ hr e2
    · have hm : m = n := (List.mem_cons.mp h).elim id fun z => absurd z hr
      subst hm
      have e3 : closeC S S' (m :: r) = closeC S (S'.set m o) r := by
        rw [closeC, e]
      rw [e3, closeC_out r _ _ m hr] at e2
      by_cases hl : m < S'.length
      · rw [List.getElem?_set_self hl] at e2
        exact (Option.some.inj e2).symm
      · rw [List.getElem?_eq_none (by rw [List.length_set]; omega)] at e2
        cases e2
theorem celsD_mem {S : Sto} : ∀ {ns : List Nat} {ds : List D}, celsD S ns = some ds → ∀ n ∈ ns, ∃ d, S[n]? = some (.cel d)
  | [], _, _, _, h => by cases h
  | n :: r, ds, e, m, h => by
    unfold celsD at e
    cases q : S[n]? with
    | none => rw [q] at e; cases e
    | some o =>
      rw [q] at e
      cases o with
      | cel d =>
        try dsimp only at e
        cases q2 : celsD S r with
        | none => rw [q2] at e; cases e
        | some ds' =>
          rcases List.mem_cons.mp h with h | h
          · exact ⟨d, by rw [h]; exact q⟩
          · exact celsD_mem q2 m h
      | _ => cases e
/-! ### the same in the abstract heap -/
noncomputable def era (cs : List Addr) (H : Hp) : Hp := fun b => if b ∈ cs then none else H b
noncomputable def trk (cs : List Addr) (H H' : Hp) : Hp := fun b => if b ∈ cs then H b else H' b
def CS (cs : List Addr) (H : Hp) : Prop := ∀ c ∈ cs, ∃ v, H c = some (CellO c v)
section
variable {cs : List Addr} {H H' : Hp} {P : Program} {w : World} {h h' : Heap} {b : Addr} {o : HO}
theorem era_out (hb : b ∉ cs) : era cs H b = H b := if_neg hb
theorem era_in (hb : b ∈ cs) : era cs H b = none := if_pos hb
theorem trk_out (hb : b ∉ cs) : trk cs H H' b = H' b := if_neg hb
theorem trk_in (hb : b ∈ cs) : trk cs H H' b = H b := if_pos hb
theorem era_some (e : era cs H b = some o) : b ∉ cs ∧ H b = some o := by
  by_cases hb : b ∈ cs
  · rw [era_in hb] at e; cases e
  · exact ⟨hb, by rw [era_out hb] at e; exact e⟩
theorem CS.out (c : CS cs H) (e : H b = some o) (ho : ∀ φ, o ≠ .ext φ) : b ∉ cs := fun hb => by
  obtain ⟨v, q⟩ := c b hb
  rw [e] at q
  exact ho _ (Option.some.inj q)
theorem CS.outN (c : CS cs H) (e : H b = none) : b ∉ cs := fun hb => by
  obtain ⟨v, q⟩ := c b hb
  rw [e] at q
  cases q
theorem hok_era (ok : HOk P w H h) (c : CS cs H) : HOk P w (era cs H) h := fun a o e => by
  obtain ⟨ha, e⟩ := era_some e
  exact (ok a o e).stay (fun b u _ q => q) (fun b q => by rw [era_out (c.out q fun φ z => by cases z)]; exact q) fun b xs q => by rw [era_out (c.out q fun φ z => by cases z)]; exact q
theorem cell_here (ok : HOk P w H h) {v : V} (e : H b = some (CellO b v)) : ∃ u, RelV v u ∧ h.IsCell b (some u) := by
  obtain ⟨z, _, _⟩ := ok b _ e
  exact z
theorem code_no_cell (ok : HOk P w H h) {q : Str} {v : V} (e1 : H b = some (LamX.CodeO b q)) (e2 : H b = some (CellO b v)) : False := by
  obtain ⟨u, _, o, h1, h2⟩ := cell_here ok e2
  obtain ⟨⟨oc, vs, t, h3, h4, _⟩, _, _⟩ := ok b _ e1
  rw [h1] at h3
  cases h3
  rw [h2] at h4
  cases h4
theorem fn_no_cell (ok : HOk P w H h) {W : NW} {cl : List (Str × Addr)} {cc : Addr} {v : V} (e1 : H b = some (FnQ b W cl cc)) (e2 : H b = some (CellO b v)) : False := by
  obtain ⟨u, _, o, h1, h2⟩ := cell_here ok e2
  obtain ⟨od, sl, doc, pm, ctv, h3⟩ := fnq_at ok e1
  rw [h1] at h3
  cases h3
  cases h2
theorem xt_era {K : PySem.W.Frag} {β : List Addr} (ok : HOk P w H h) (c : CS cs H) : Xt K β H β (era cs H) :=
  ⟨⟨[], by simp⟩, fun a xs q => by rw [era_out (c.out q fun φ z => by cases z)]; exact q, fun a xs q => by rw [era_out (c.out q fun φ z => by cases z)]; exact q,
    fun a z q => by
      rw [era_out (fun hb => by obtain ⟨v, e⟩ := c a hb; exact code_no_cell ok q e)]; exact q,
    fun a W cl cc q => by
      rw [era_out (fun hb => by obtain ⟨v, e⟩ := c a hb; exact fn_no_cell ok q e)]; exact q⟩
theorem xt_trk {K : PySem.W.Frag} {β β' : List Addr} (ok : HOk P w H h) (c : CS cs H) (x : Xt K β (era cs H) β' H') : Xt K β H β' (trk cs H H') := by
  have key : ∀ a o, H a = some o → a ∉ cs → (era cs H a = some o → H' a = some o) → trk cs H H' a = some o := fun a o q ha k => by
    rw [trk_out ha]
    exact k (by rw [era_out ha]; exact q)
  exact ⟨x.pre, fun a xs q => key a _ q (c.out q fun φ z => by cases z) (x.tup a xs), fun a xs q => key a _ q (c.out q fun φ z => by cases z) (x.xd a xs),
    fun a z q => key a _ q (fun hb => by obtain ⟨v, e⟩ := c a hb; exact code_no_cell ok q e) (x.cod a z),
    fun a W cl cc q => key a _ q (fun hb => by obtain ⟨v, e⟩ := c a hb; exact fn_no_cell ok q e) (x.fnq a W cl cc)⟩
/-- what the callee has tracked, the caller's cells beside -/
theorem xt_up {K : PySem.W.Frag} {β : List Addr} (hf : ∀ c ∈ cs, H' c = none) : Xt K β H' β (trk cs H H') := by
  have key : ∀ a o, H' a = some o → trk cs H H' a = some o := fun a o q => by
    rw [trk_out (fun hb => by rw [hf a hb] at q; cases q)]
    exact q
  exact ⟨⟨[], by simp⟩, fun a xs => key a _, fun a xs => key a _, fun a z => key a _, fun a W cl cc => key a _⟩
theorem un_trk {fs : List Addr} (u : Un fs [] (era cs H) H' h h') (c : CS cs H) : Un fs [] H (trk cs H H') h h' where
  keep := fun b o e n => u.keep b o e (by rw [era_out (c.outN n)]; exact n)
  slot := fun b o e n => u.slot b o e (by rw [era_out (c.outN n)]; exact n)
  free := fun b o e n hx => by
    rw [trk_out (c.outN n)]
    exact u.free b o e (by rw [era_out (c.outN n)]; exact n) hx
  there := u.there
  tups := fun b xs e => by
    have hb := c.out e fun φ z => by cases z
    rw [trk_out hb]
    exact u.tups b xs (by rw [era_out hb]; exact e)
  frzs := fun b o xs e => by
    have hb := c.out e fun φ z => by cases z
    rw [trk_out hb]
    exact u.frzs b o xs (by rw [era_out hb]; exact e)
  tbls := fun b ps e => by
    have hb := c.out e fun φ z => by cases z
    obtain ⟨more, q⟩ := u.tbls b ps (by rw [era_out hb]; exact e)
    exact ⟨more, by rw [trk_out hb]; exact q⟩
theorem ub_trk {fs : List Addr} {B : Heap} (u : UB fs (era cs H) H' h B h') (c : CS cs H) : UB fs H (trk cs H H') h B h' where
  keep := fun b o e n => u.keep b o e (by rw [era_out (c.outN n)]; exact n)
  slot := u.slot
  free := fun b o e n => by
    rw [trk_out (c.outN n)]
    exact u.free b o e (by rw [era_out (c.outN n)]; exact n)
  there := u.there
  tups := fun b xs e => by
    have hb := c.out e fun φ z => by cases z
    rw [trk_out hb]
    exact u.tups b xs (by rw [era_out hb]; exact e)
  frzs := fun b o xs e => by
    have hb := c.out e fun φ z => by cases z
    rw [trk_out hb]
    exact u.frzs b o xs (by rw [era_out hb]; exact e)
  tbls := fun b ps e => by
    have hb := c.out e fun φ z => by cases z
    obtain ⟨more, q⟩ := u.tbls b ps (by rw [era_out hb]; exact e)
    exact ⟨more, by rw [trk_out hb]; exact q⟩
theorem hok_trk {B : Heap} (ok : HOk P w H h) (ok' : HOk P w H' B) (c : CS cs H) (hf : ∀ a ∈ cs, H' a = none) (kp : ∀ a ∈ cs, ∀ o, h.get? a = some o → B.get? a = some o) : HOk P w (trk cs H H') B := fun a o e => by
  by_cases ha : a ∈ cs
  · rw [trk_in ha] at e
    obtain ⟨v, q⟩ := c a ha
    rw [q] at e
    cases e
    obtain ⟨p, ⟨ob, ho⟩, st⟩ := ok a _ q
    exact ⟨st _ _ p fun u hu => kp a ha u hu, ⟨ob, kp a ha ob ho⟩, st⟩
  · rw [trk_out ha] at e
    have up : ∀ b u, H' b = some u → trk cs H H' b = some u := fun b u q => by
      rw [trk_out (fun hb => by rw [hf b hb] at q; cases q)]
      exact q
    exact (ok' a o e).stay (fun b u _ q => q) (fun b q => up b _ q) fun b xs q => up b _ q
end
section
variable [TabCfg] {K : PySem.W.Frag} {mg : Str → Option Value} {β β' : List Addr} {H H' : Hp} {S S' : Sto} {ns : List Nat} {cs : List Addr} {P : Program} {w : World} {h : Heap}
/-- the cells' addresses -/
def csOf (β : List Addr) (ns : List Nat) : List Addr := ns.map fun n => (β[n]?).getD 0
theorem mem_csOf {c : Addr} (hc : c ∈ csOf β ns) (hl : ∀ n ∈ ns, n < β.length) : ∃ n ∈ ns, β[n]? = some c := by
  obtain ⟨n, hn, e⟩ := List.mem_map.mp hc
  refine ⟨n, hn, ?_⟩
  have e : (β[n]?).getD 0 = c := e
  rw [List.getElem?_eq_getElem (hl n hn)] at e ⊢
  exact congrArg some e
theorem csOf_mem {n : Nat} {c : Addr} (hn : n ∈ ns) (e : β[n]? = some c) : c ∈ csOf β ns := by
  unfold csOf
  refine List.mem_map.mpr ⟨n, hn, ?_⟩
  rw [e]
  rfl
theorem cels_lt (r : Rl K mg β H S) {es : List D} (e : celsD S ns = some es) : ∀ n ∈ ns, n < β.length := fun n hn => by
  obtain ⟨d, q⟩ := celsD_mem e n hn
  rw [r.len]
  exact (List.getElem?_eq_some_iff.mp q).1
theorem cels_cs (r : Rl K mg β H S) {es : List D} (e : celsD S ns = some es) : CS (csOf β ns) H := fun c hc => by
  obtain ⟨n, hn, q⟩ := mem_csOf hc (cels_lt r e)
  obtain ⟨d, q2⟩ := celsD_mem e n hn
  obtain ⟨v, q3, _⟩ := r.at' n c _ q q2
  exact ⟨v, q3⟩
theorem cels_vds (r : Rl K mg β H S) : ∀ {ns : List Nat} {es : List D}, celsD S ns = some es → ∃ ws, Vds K mg β H ws es ∧ ws.length = ns.length ∧ ∀ (j n : Nat), ns[j]? = some n → ∃ c v, β[n]? = some c ∧ ws[j]? = some v ∧ H c = some (CellO c v)
  | [], _, e => by
    cases e
    exact ⟨[], .nil, rfl, fun j n h => by simp at h⟩
  | n :: l, es, e => by
    unfold celsD at e
    cases q : S[n]? with
    | none => rw [q] at e; cases e
    | some o =>
      rw [q] at e
      cases o with
      | cel d =>
        try dsimp only at e
        cases q2 : celsD S l with
        | none => rw [q2] at e; cases e
        | some ds' =>
          rw [q2] at e
          cases e
          obtain ⟨ws, h1, h2, h3⟩ := cels_vds r q2
          have hl : n < β.length := by
            rw [r.len]
            exact (List.getElem?_eq_some_iff.mp q).1
          obtain ⟨v, h4, h5⟩ := r.at' n β[n] _ (List.getElem?_eq_getElem hl) q
          refine ⟨v :: ws, .cons h5 h1, by rw [List.length_cons, List.length_cons, h2], fun j m hj => ?_⟩
          cases j with
          | zero =>
            rw [List.getElem?_cons_zero] at hj
            cases hj
            exact ⟨_, v, List.getElem?_eq_getElem hl, rfl, h4⟩
          | succ j => exact h3 j m (by simpa using hj)
      | _ => cases e
theorem rl_era (r : Rl K mg β H S) (ok : HOk P w H h) {es : List D} (e : celsD S ns = some es) : Rl K mg β (era (csOf β ns) H) (openD S ns) := by
  have c := cels_cs r e
  have x : Xt K β H β (era (csOf β ns) H) := xt_era ok c
  have old : ∀ n o, (openD S ns)[n]? = some o → o.wr = true → n ∉ ns ∧ S[n]? = some o := fun n o q hw => by
    rw [openD_get] at q
    by_cases hn : n ∈ ns
    · rw [if_pos hn] at q
      cases q2 : S[n]? with
      | none => rw [q2] at q; cases q
      | some u => rw [q2] at q; cases q; cases hw
    · rw [if_neg hn] at q
      exact ⟨hn, q⟩
  refine ⟨by rw [openD_len]; exact r.len, fun n a o h1 h2 => ?_, fun n m a o u h1 h2 h3 h4 w1 w2 => ?_, fun p hp => tabN_stay (r.tabs p hp) x fun ps q => by rw [era_out (c.out q fun φ z => by cases z)]; exact q⟩
  · rw [openD_get] at h2
    by_cases hn : n ∈ ns
    · rw [if_pos hn] at h2
      cases q2 : S[n]? with
      | none => rw [q2] at h2; cases h2
      | some u => rw [q2] at h2; cases h2; exact True.intro
    · rw [if_neg hn] at h2
      refine (r.at' n a o h1 h2).ext x (fun hw => era_out fun ha => ?_) fun u v q => by rw [era_out (c.out q fun φ z => by cases z)]; exact q
      obtain ⟨m, hm, q⟩ := mem_csOf ha (cels_lt r e)
      obtain ⟨d, q2⟩ := celsD_mem e m hm
      exact hn (by rw [r.uniq n m a o _ h1 q h2 q2 hw rfl]; exact hm)
  · exact r.uniq n m a o u h1 h2 (old n o h3 w1).2 (old m u h4 w2).2 w1 w2
theorem rl_trk (r : Rl K mg β H S) (ok : HOk P w H h) {es : List D} (e : celsD S ns = some es) (x : Xt K β (era (csOf β ns) H) β' H') (r' : Rl K mg β' H' S') (hf : ∀ c ∈ csOf β ns, H' c = none) : Rl K mg β' (trk (csOf β ns) H H') (closeC S S' ns) := by
  have c := cels_cs r e
  have x1 : Xt K β H β' (trk (csOf β ns) H H') := xt_trk ok c x
  have x2 : Xt K β' H' β' (trk (csOf β ns) H H') := xt_up hf
  have up : ∀ a u, H' a = some u → trk (csOf β ns) H H' a = some u := fun a u q => by
    rw [trk_out (fun hb => by rw [hf a hb] at q; cases q)]
    exact q
  have inn : ∀ n o, n ∈ ns → (closeC S S' ns)[n]? = some o → ∃ d, o = .cel d ∧ S[n]? = some (.cel d) ∧ ∃ a, β[n]? = some a ∧ β'[n]? = some a ∧ a ∈ csOf β ns := fun n o hn q => by
    obtain ⟨d, q2⟩ := celsD_mem e n hn
    have hl := cels_lt r e n hn
    exact ⟨d, closeC_in S n _ _ q2 ns S' hn q, q2, β[n], List.getElem?_eq_getElem hl, x.at' (List.getElem?_eq_getElem hl), csOf_mem hn (List.getElem?_eq_getElem hl)⟩
  refine ⟨by rw [closeC_len]; exact r'.len, fun n a o h1 h2 => ?_, fun n m a o u h1 h2 h3 h4 w1 w2 => ?_, fun p hp => tabN_stay (r'.tabs p hp) x2 fun ps q => up _ _ q⟩
  · by_cases hn : n ∈ ns
    · obtain ⟨d, rfl, q2, b, q3, q4, q5⟩ := inn n o hn h2
      rw [h1] at q4
      cases q4
      obtain ⟨v, g1, g2⟩ := r.at' n a _ q3 q2
      exact ⟨v, by rw [trk_in q5]; exact g1, g2.ext x1⟩
    · rw [closeC_out ns S S' n hn] at h2
      have ho := r'.at' n a o h1 h2
      refine ho.ext x2 (fun hw => ?_) fun u v q => up _ _ q
      obtain ⟨y, q, _⟩ := ho.tracked hw
      rw [q]
      exact up _ _ q
  · have tr : ∀ k z, k ∉ ns → (closeC S S' ns)[k]? = some z → z.wr = true → β'[k]? = some a → ∃ y, H' a = some y := fun k z hk q hw h => by
      rw [closeC_out ns S S' k hk] at q
      obtain ⟨y, q2, _⟩ := (r'.at' k a z h q).tracked hw
      exact ⟨y, q2⟩
    by_cases hn : n ∈ ns
    · obtain ⟨d, rfl, q2, b, q3, q4, q5⟩ := inn n o hn h3
      rw [h1] at q4
      cases q4
      by_cases hm : m ∈ ns
      · obtain ⟨d', rfl, p2, b', p3, p4, p5⟩ := inn m u hm h4
        rw [h2] at p4
        cases p4
        exact r.uniq n m a _ _ q3 p3 q2 p2 w1 w2
      · obtain ⟨y, q⟩ := tr m u hm h4 w2 h2
        rw [hf a q5] at q
        cases q
    · by_cases hm : m ∈ ns
      · obtain ⟨d', rfl, p2, b', p3, p4, p5⟩ := inn m u hm h4
        rw [h2] at p4
        cases p4
        obtain ⟨y, q⟩ := tr n o hn h3 w1 h1
        rw [hf a p5] at q
        cases q
      · rw [closeC_out ns S S' n hn] at h3
        rw [closeC_out ns S S' m hm] at h4
        exact r'.uniq n m a o u h1 h2 h3 h4 w1 w2
end
/-! ### the call -/
def runV (m : List D → Sto → R D) (ns : List Nat) (ds : List D) (S : Sto) : R D := match celsD S ns with
  | some es => match m (ds ++ es) (openD S ns) with
    | .ok d S' => .ok d (closeC S S' ns)
    | .ex x S' => .ex x (closeC S S' ns)
    | .stuck => .stuck
  | none => .stuck
abbrev VTab := List (NW × (List D → Sto → R D))
open Classical in
noncomputable def callV (tab : VTab) (o : D) (ds : List D) (S : Sto) : R D := match o with
  | .ref n => match S[n]? with
    | some (.fn i W ns) => match tab[i]? with
      | some (W', m) => if W = W' then runV m ns ds S else .stuck
      | none => .stuck
    | _ => .stuck
  | _ => .stuck
def isFn (o : D) (S : Sto) : Bool := match o with
  | .ref n => match S[n]? with
    | some (.fn _ _ _) => true
    | _ => false
  | _ => false
noncomputable def mCallV (tab : VTab) (mo : Mx) (ma : Ma) : Mx := fun ρ S => (mo ρ S).bind fun o S1 => if isFn o S1 = true then (ma ρ S1).bind fun ds S2 => callV tab o ds S2 else .stuck
section
variable [TabCfg] {X : Cx} {W : WX}
/-- the functions of the table: each one keeps its promise, or is never asked -/
structure VOk (X : Cx) (j n : Nat) (tab : VTab) : Prop where
  has : ∀ (i : Nat) (U : NW) (m : List D → Sto → R D), tab[i]? = some (U, m) → (∀ ds S, m ds S = .stuck) ∨ ∃ k, NQ X.prog X.w X.K X.mg X.base k U n m ∧ k ≤ j
theorem vok_nil {j n : Nat} : VOk X j n [] := ⟨fun i W m h => by simp at h⟩
theorem vok_cons {j n k : Nat} {V : NW} {m : List D → Sto → R D} {tab : VTab} (q : NQ X.prog X.w X.K X.mg X.base k V n m) (t : VOk X j n tab) (hkj : k ≤ j := by decide) : VOk X j n ((V, m) :: tab) := ⟨fun i W' m' h => by
  cases i with
  | zero =>
    rw [List.getElem?_cons_zero] at h
    cases h
    exact .inr ⟨k, q, hkj⟩
  | succ i => exact t.has i W' m' (by simpa using h)⟩
theorem vok_skip {j n : Nat} {V : NW} {tab : VTab} (t : VOk X j n tab) : VOk X j n ((V, fun _ _ => .stuck) :: tab) := ⟨fun i W' m' h => by
  cases i with
  | zero =>
    rw [List.getElem?_cons_zero] at h
    cases h
    exact .inl fun _ _ => rfl
  | succ i => exact t.has i W' m' (by simpa using h)⟩
theorem fn_ref {β : List Addr} {H : Hp} {S : Sto} {od : D} {v : V} (r : Rl X.K X.mg β H S) (hv : Vd X.K X.mg β H v od) (e : isFn od S = true) : ∃ (a : Addr) (U : NW) (cl : List (Str × Addr)) (c : Addr), v = .ref a ∧ H a = some (FnQ a U cl c) := by
  unfold isFn at e
  cases od with
  | ref n =>
    obtain ⟨a, rfl, h1⟩ := hv.ref_inv
    dsimp only at e
    cases q : S[n]? with
    | none => rw [q] at e; cases e
    | some o =>
      rw [q] at e
      cases o with
      | fn i U ns =>
        obtain ⟨cl, c, g1, _⟩ := r.at' n a _ h1 q
        exact ⟨a, U, cl, c, rfl, g1⟩
      | _ => cases e
  | _ => cases e
theorem fnq_fnAt {P : Program} {w : World} {H : Hp} {h : Heap} {f : Addr} {U : NW} {cl : List (Str × Addr)} {c : Addr} (hok : HOk P w H h) (e : H f = some (FnQ f U cl c)) : PySem.W.FnAt f h := by
  obtain ⟨od, sl, doc, pm, ctv, ho⟩ := fnq_at hok e
  exact ⟨_, od, _, sl, ho⟩
theorem callV_run {j n : Nat} {tab : VTab} {pins : List (Addr × Obj)} {σ : L2.St} {β : List Addr} {H : Hp} {S : Sto} {s : Shared} {Q : VK} {a : Addr} {od : D} {us : List Value} {vs : List V} {ds : List D} (t : VOk X j n tab) (hr : Room j X.A) (tk : Takes X W) (I : Inv X pins σ H s) (rl : Rl X.K X.mg β H S)
    (hv : Vd X.K X.mg β H (.ref a) od) (r : Vals vs us) (hvs : Vds X.K X.mg β H vs ds) (hn : vs.length = n) (q : Po X.K X.mg W σ β H (callV tab od ds S) fun d β' _ H' => ∀ v, Vd X.K X.mg β' H' v d → Q v H') :
    wpAny (model X.prog X.w) X.A (call (.ref a) us) (EP X pins σ Q) X.xe s := by
  unfold callV at q
  cases od with
  | ref m =>
    dsimp only at q
    obtain ⟨a', ea, h1⟩ := hv.ref_inv
    cases ea
    cases e1 : S[m]? with
    | none => rw [e1] at q; exact q.elim
    | some ob =>
      rw [e1] at q
      cases ob with
      | fn i U ns =>
        dsimp only at q
        cases e2 : tab[i]? with
        | none => rw [e2] at q; exact q.elim
        | some p =>
          obtain ⟨U', mm⟩ := p
          rw [e2] at q
          dsimp only at q
          split at q
          · rename_i hU
            subst hU
            obtain ⟨cl, c, g1, g2, g3⟩ := rl.at' m a _ h1 e1
            unfold runV at q
            cases e3 : celsD S ns with
            | none => rw [e3] at q; exact q.elim
            | some es =>
              rw [e3] at q
              dsimp only at q
              rcases t.has i U mm e2 with z | ⟨k, Fn, hk⟩
              · rw [z] at q; exact q.elim
              obtain ⟨ws, w1, w2, w3⟩ := cels_vds rl e3
              have cs := cels_cs rl e3
              have ok := I.hok
              have x := xt_era (K := X.K) (β := β) ok cs
              have r2 := rl_era rl ok e3
              have e0 := I.env0
              have nofs : ∀ b ∈ csOf β ns, b ∉ frs X.stack := fun b hb z => by
                obtain ⟨v, q1⟩ := cs b hb
                rw [e0.frf b z] at q1
                cases q1
              have e0' : Env0 X.prog X.w X.K X.mg X.base X.A X.stack s (era (csOf β ns) H) := ⟨e0.frames, e0.mod, fun b o hb => ⟨(e0.bs b o hb).1, by rw [era_out (cs.outN (e0.bs b o hb).2)]; exact (e0.bs b o hb).2⟩, e0.bsz, e0.funs, fun b hb => by rw [era_out (cs.outN (e0.frf b hb))]; exact e0.frf b hb, hok_era ok cs, e0.bare⟩
              have cells : NdefX.CellsAt cl U.fr (ws.map some) s.heap (era (csOf β ns) H) := by
                refine ⟨by rw [List.length_map, w2]; exact g3.len, fun y c' hy => ?_, g3.inj, fun i' y hy => ?_⟩
                · obtain ⟨jj, hj⟩ := List.mem_iff_getElem?.mp (g3.sub y c' hy)
                  obtain ⟨n', a', k1, k2, k3⟩ := g3.has jj y hj
                  rw [hy] at k3
                  cases k3
                  have hin := csOf_mem (List.mem_of_getElem? k1) k2
                  obtain ⟨v, q1⟩ := cs _ hin
                  obtain ⟨u, _, hu⟩ := cell_here ok q1
                  exact ⟨era_in hin, some u, hu⟩
                · obtain ⟨n', a', k1, k2, k3⟩ := g3.has i' y hy
                  refine ⟨a', k3, fun v hv' => ?_⟩
                  obtain ⟨c', v', j1, j2, j3⟩ := w3 i' n' k1
                  rw [k2] at j1
                  cases j1
                  rw [List.getElem?_map, j2] at hv'
                  cases hv'
                  exact cell_here ok j3
              have wl : ws.length = U.fr.length := by rw [w2]; exact g3.len
              have sp : spM X.K X.mg (n + U.fr.length) mm (vs ++ ws) (era (csOf β ns) H) (fun v H' => (∀ c ∈ csOf β ns, H' c = none) → Q v (trk (csOf β ns) H H')) (fun cls od H' => (∀ c ∈ csOf β ns, H' c = none) → W cls od σ (trk (csOf β ns) H H')) := by
                refine ⟨by rw [List.length_append, hn, wl], β, openD S ns, ds ++ es, r2, Vds.append (hvs.ext x) (w1.ext x), ?_⟩
                cases e4 : mm (ds ++ es) (openD S ns) with
                | ok d S' =>
                  rw [e4] at q
                  intro β' H' v x' r' hv' hf
                  exact q β' _ (xt_trk ok cs x') (rl_trk rl ok e3 x' r' hf) v (hv'.ext (xt_up hf))
                | ex z S' =>
                  rw [e4] at q
                  intro cls od β' H' x' r' hx hf
                  refine q cls od β' _ (xt_trk ok cs x') (rl_trk rl ok e3 x' r' hf) ?_
                  obtain ⟨C, z1, z2, z3⟩ := hx
                  exact ⟨C, z1, z2, z3.ext (xt_up hf)⟩
                | stuck => rw [e4] at q; exact q.elim
              have kpc : ∀ b ∈ csOf β ns, ∃ o, s.heap.get? b = some o := fun b hb => by
                obtain ⟨v, q1⟩ := cs b hb
                obtain ⟨u, _, o, ho, _⟩ := cell_here ok q1
                exact ⟨o, ho⟩
              refine wpAny_call (codeAny_mono (Fn.run a cl c X.A X.stack s _ us vs ws _ _ (hr.mono hk) e0' (x.fnq _ _ _ _ g1) (x.cod _ _ g2) cells r hn sp) fun res s' back => ?_)
              match res, back with
              | .error y, back =>
                obtain ⟨ax, B, H', cls, dd, rfl, fl, okB, ub, na, os, ag, hE⟩ := back
                have hf : ∀ c ∈ csOf β ns, H' c = none := fun c hc => by
                  obtain ⟨o, ho⟩ := kpc c hc
                  exact ub.free c o ho (era_in hc)
                have kp : ∀ c ∈ csOf β ns, ∀ o, s.heap.get? c = some o → B.get? c = some o := fun c hc o ho => ub.keep c o ho (era_in hc) (nofs c hc)
                refine passAt tk σ pins H s _ s' I ⟨ax, B, trk (csOf β ns) H H', cls, dd, rfl, fl, hok_trk ok okB cs hf kp, ub_trk ub cs, ?_, os, ag, hE hf⟩
                rw [trk_out (fun hc => by
                  obtain ⟨o, ho⟩ := kpc ax hc
                  have := kp ax hc o ho
                  rw [fl.2.1] at this
                  cases this)]
                exact na
              | .ok (.ret u), back =>
                obtain ⟨v, H', os, bare, un, ok', rv, q'⟩ := back
                have hf : ∀ c ∈ csOf β ns, H' c = none := fun c hc => by
                  obtain ⟨o, ho⟩ := kpc c hc
                  exact un.free c o ho (era_in hc) (by simp)
                have kp : ∀ c ∈ csOf β ns, ∀ o, s.heap.get? c = some o → s'.heap.get? c = some o := fun c hc o ho => un.keep c o ho (era_in hc) (nofs c hc) (by simp)
                exact I.after ⟨v, trk (csOf β ns) H H', os, bare, un_trk un cs, hok_trk ok ok' cs hf kp, rv, q' hf⟩
              | .ok .next, back => exact back.elim
              | .ok .brk, back => exact back.elim
              | .ok .cont, back => exact back.elim
          · exact q.elim
      | _ => exact q.elim
  | _ => exact q.elim
/-- x(..), x a name that holds a function -/
theorem me_callv {j n i : Nat} {tab : VTab} {x : Str} {p pos : Pos} {e : Expr} {es : List Expr} {ma : Ma} (t : VOk X j n tab) (hr : Room j X.A) (tk : Takes X W) (ha : MA X W (e :: es) ma) (hl : ∀ β H vs ds ρ S S', Vds X.K X.mg β H vs ds → ma ρ S = .ok ds S' → vs.length = n)
    (hN : X.N[i]? = some x := by rfl) (hvis : Vis X.env.scope x := by first | exact .inl rfl | exact .inr (.inl rfl) | exact .inr (.inr rfl)) (hd : (x == ("__debug__" : Str)) = false := by decide) (hcd : (x == ("__classdict__" : Str)) = false := by decide)
    (he : starEach (e :: es) X.env = (false, eval e X.env) :: starEach es X.env := by rfl) (hpl : (backTo pos (starEach es X.env)).any (·.1) = false := by rfl) :
    ME X W (.Call (.Name x p) (e :: es) [] pos) (mCallV tab (mVar i) ma) := by
  refine ⟨⟨fun pins s σ H Q I ⟨β, S, ρ, rl, en, q⟩ => ?_⟩⟩
  have q : Po X.K X.mg W σ β H ((getV ρ i S).bind fun o S1 => if isFn o S1 = true then (ma ρ S1).bind fun ds S2 => callV tab o ds S2 else .stuck) _ := q
  unfold getV at q
  cases e1 : ρ[i]? with
  | none => rw [e1] at q; exact q.elim
  | some o1 =>
    cases o1 with
    | none => rw [e1] at q; exact q.elim
    | some od =>
      rw [e1] at q
      obtain ⟨v, hs, hv⟩ := en.at' i od e1
      have q : Po X.K X.mg W σ β H (if isFn od S = true then (ma ρ S).bind fun ds S2 => callV tab od ds S2 else .stuck) _ := q
      split at q
      · rename_i hf
        obtain ⟨a, U, cl, c, rfl, g1⟩ := fn_ref rl hv hf
        refine wpAny_Call_Name_kw (thn ((pe_var (pos := p) hN hvis hd hcd).run pins s σ H (fun v H1 => v = .ref a ∧ H1 = H) I ⟨.ref a, hs, rfl, rfl⟩) fun u s1 ⟨v, H1, I1, r1, q1⟩ => ?_)
        obtain ⟨ev, eH⟩ := q1
        subst ev
        rw [eH] at I1
        obtain rfl : u = Value.ref a := r1
        have q2 := q.bind
        have step : tMA X.K X.mg W ma σ H fun vs H2 => vs.length = n ∧ ∃ β2 S2 ds, Rl X.K X.mg β2 H2 S2 ∧ Vds X.K X.mg β2 H2 vs ds ∧ Xt X.K β H β2 H2 ∧ Po X.K X.mg W σ β2 H2 (callV tab od ds S2) fun d β' _ H' => ∀ v, Vd X.K X.mg β' H' v d → Q v H' := by
          refine ⟨β, S, ρ, rl, en, ?_⟩
          cases e2 : ma ρ S with
          | ok ds S2 =>
            rw [e2] at q2
            exact fun β2 H2 x2 r2 vs hvs => ⟨hl β2 H2 vs ds ρ S S2 hvs e2, β2, S2, ds, r2, hvs, x2, q2 β2 H2 x2 r2⟩
          | ex z S2 => rw [e2] at q2; exact q2
          | stuck => rw [e2] at q2; exact q2
        refine PySem.W.callWith_F (first := []) (fnq_fnAt I1.hok g1) (thn (ha.pa.run pos pins s1 σ H _ I1 step) fun us s2 ⟨vs, H2, I2, r, hn, β2, S2, ds, r2, hvs, x2, q3⟩ => ⟨fnq_fnAt I2.hok (x2.fnq _ _ _ _ g1), ?_⟩) he hpl
        exact callV_run t hr tk I2 r2 (hv.ext x2) r hvs hn q3
      · exact q.elim
end
end Eng

set_option maxHeartbeats 2000000
/-! The engine, part 22: defs that give back functions. -/
namespace Eng
open PySem PySem.Spec PyProof.Rows L2
variable [TabCfg]
/-! ### more is tracked at the end: the cells of the frame -/
def Tk (X : Cx) (H H2 : Hp) (s : Shared) : Prop := ∀ b, H2 b = H b ∨ (H b = none ∧ X.s_0.heap.objs.size ≤ b ∧ ∃ v, H2 b = some (CellO b v) ∧ ∃ u, RelV v u ∧ s.heap.IsCell b (some u))
def FP (X : Cx) (pins : List (Addr × Obj)) (D : Ends) (f : Flow) (s' : Shared) : Prop := match f with
  | .next => ∃ σ' H', Inv X pins σ' H' s' ∧ D.nx σ' H'
  | .ret u => ∃ v σ' H' H2, Inv X pins σ' H' s' ∧ RelV v u ∧ Tk X H' H2 s' ∧ D.rt v H2
  | _ => False
structure FS (X : Cx) (W : WX) (st : Stmt) (m : Ms) : Prop where
  run : ∀ (pins : List (Addr × Obj)) (s : Shared) (σ : L2.St) (H : Hp) (D : Ends), Inv X pins σ H s → tMS X.K X.mg W m D σ H → wpAny (model X.prog X.w) X.A (exec st X.env) (FP X pins D) X.xe s
structure FSs (X : Cx) (W : WX) (st : List Stmt) (m : Ms) : Prop where
  run : ∀ (pins : List (Addr × Obj)) (s : Shared) (σ : L2.St) (H : Hp) (D : Ends), Inv X pins σ H s → tMS X.K X.mg W m D σ H → wpAny (model X.prog X.w) X.A (execs st X.env) (FP X pins D) X.xe s
section
variable {X : Cx} {W : WX} {st : Stmt} {rest : List Stmt} {a b m : Ms} {c : Expr} {mc : Mb} {pos : Pos}
theorem Tk.refl {H : Hp} {s : Shared} : Tk X H H s := fun _ => .inl rfl
theorem fs_of (h : MS X W st m) : FS X W st m := by
  refine ⟨fun pins s σ H D I t => thn (h.ps.run pins s σ H { nx := D.nx, rt := D.rt } I t) fun f s' q => ?_⟩
  match f, q with
  | .next, q => exact q
  | .ret u, ⟨v, σ', H', J, r, q⟩ => exact ⟨v, σ', H', H', J, r, .refl, q⟩
  | .brk, ⟨_, _, _, q⟩ => exact q.elim
  | .cont, ⟨_, _, _, q⟩ => exact q.elim
theorem fss_of (h : MSs X W rest m) : FSs X W rest m := by
  refine ⟨fun pins s σ H D I t => thn (h.ps.run pins s σ H { nx := D.nx, rt := D.rt } I t) fun f s' q => ?_⟩
  match f, q with
  | .next, q => exact q
  | .ret u, ⟨v, σ', H', J, r, q⟩ => exact ⟨v, σ', H', H', J, r, .refl, q⟩
  | .brk, ⟨_, _, _, q⟩ => exact q.elim
  | .cont, ⟨_, _, _, q⟩ => exact q.elim
theorem fss_cons (h1 : FS X W st a) (h2 : FSs X W rest b) : FSs X W (st :: rest) (sSeq a b) := by
  refine ⟨fun pins s σ H D I ⟨β, S, ρ, rl, en, q⟩ => ?_⟩
  have t : tMS X.K X.mg W a { nx := fun σ' H' => tMS X.K X.mg W b D σ' H', rt := D.rt } σ H := by
    refine ⟨β, S, ρ, rl, en, ?_⟩
    unfold sSeq at q
    cases e : a ρ S with
    | fl f S1 =>
      rw [e] at q
      cases f with
      | nx ρ1 => exact fun β' H' σ' x r en' => ⟨β', S1, ρ1, r, en', q.xt x⟩
      | rt d => exact q
    | ex x ρ1 S1 => rw [e] at q; exact q
    | stuck => rw [e] at q; exact q
  refine wpAny_execs_cons (thn (h1.run pins s σ H _ I t) fun f s1 q => ?_)
  match f, q with
  | .next, ⟨σ', H', J, q⟩ => exact h2.run pins s1 σ' H' D J q
  | .ret u, q => exact q
  | .brk, q => exact q.elim
  | .cont, q => exact q.elim
theorem fss_one (h1 : FS X W st a) : FSs X W [st] a := by
  refine ⟨fun pins s σ H D I t => wpAny_execs_cons (thn (h1.run pins s σ H D I t) fun f s1 q => ?_)⟩
  match f, q with
  | .next, q => exact wpAny_execs_nil q
  | .ret u, q => exact q
  | .brk, q => exact q.elim
  | .cont, q => exact q.elim
theorem fss_nil : FSs X W [] sSkip := fss_of ms_nil
theorem fs_if {p q : List Stmt} (hc : MT X W c mc) (ha : FSs X W p a) (hb : FSs X W q b) : FS X W (.If c p q pos) (sIf mc a b) := by
  refine ⟨fun pins s σ H D I ⟨β, S, ρ, rl, en, t⟩ => ?_⟩
  have t2 : tMT X.K X.mg W mc σ H fun k H1 => if k = true then tMS X.K X.mg W a D σ H1 else tMS X.K X.mg W b D σ H1 := by
    refine ⟨β, S, ρ, rl, en, (PoS.st t en).mono fun k β1 S1 H1 x1 r1 t1 => ?_⟩
    cases k with
    | true => exact ⟨β1, S1, ρ, r1, en.ext x1, t1⟩
    | false => exact ⟨β1, S1, ρ, r1, en.ext x1, t1⟩
  refine wpAny_If (thn (hc.pt.run pins s σ H _ I t2) fun d s1 ⟨H1, I1, q1⟩ => ?_)
  cases d with
  | true => exact ha.run pins s1 σ H1 D I1 q1
  | false => exact hb.run pins s1 σ H1 D I1 q1
end
/-! ### the def -/
section
variable {fs : List Addr} {H0 H H2 : Hp} {h0 h : Heap} {P : Program} {w : World}
theorem un_tk {X : Cx} {s' : Shared} (u : Un fs [] H0 H X.s_0.heap s'.heap) (t : Tk X H H2 s') : Un fs [] H0 H2 X.s_0.heap s'.heap where
  keep := u.keep
  slot := u.slot
  free := fun b o e n hx => by
    rcases t b with z | ⟨_, z, _⟩
    · rw [z]; exact u.free b o e n hx
    · exact absurd (Heap.lt_size e) (Nat.not_lt.mpr z)
  there := u.there
  tups := fun b xs e => by
    have q := u.tups b xs e
    rcases t b with z | ⟨z, _⟩
    · rw [z]; exact q
    · rw [z] at q; cases q
  frzs := fun b o xs e => by
    have q := u.frzs b o xs e
    rcases t b with z | ⟨z, _⟩
    · rw [z]; exact q
    · rw [z] at q; cases q
  tbls := fun b ps e => by
    obtain ⟨more, q⟩ := u.tbls b ps e
    rcases t b with z | ⟨z, _⟩
    · exact ⟨more, by rw [z]; exact q⟩
    · rw [z] at q; cases q
theorem cell_ok {b : Addr} {v : V} {u : Value} (r : RelV v u) (c : h.IsCell b (some u)) : ObjOk P w H h b (CellO b v) := by
  refine ⟨⟨u, r, c⟩, ?_, fun h1 h2 ⟨u', r', o', e, d⟩ st => ⟨u', r', o', st _ e, d⟩⟩
  obtain ⟨o, e, _⟩ := c
  exact ⟨o, e⟩
theorem hok_tk {X : Cx} {s' : Shared} (ok : HOk P w H s'.heap) (t : Tk X H H2 s') : HOk P w H2 s'.heap := fun a o e => by
  have up : ∀ b u, H b = some u → H2 b = some u := fun b u q => by
    rcases t b with z | ⟨z, _⟩
    · rw [z]; exact q
    · rw [z] at q; cases q
  rcases t a with z | ⟨_, _, v, z, u, r, c⟩
  · rw [z] at e
    exact (ok a o e).stay (fun b u _ q => q) (fun b q => up b _ q) fun b xs q => up b _ q
  · rw [z] at e
    cases e
    exact cell_ok r c
end
theorem maker_ok {P : Program} {w : World} {K : PySem.W.Frag} {mg : Str → Option Value} {base : Heap} {x qual : Str} {st : Stmt} {f c : Addr} {N ps : List Str} {k : Nat} {b : Ms} {oc kV doc pm ct : Value} {od an : Option Addr} {osl : Array (Option Value)}
    (lk : K.lookup f = some ⟨oc, od, .func (PySem.W.fnOf x qual (defArgs st) (defBody st) (defScope st) .none kV doc pm an (.ref c) ct), osl⟩) (hcd : PySem.W.codeIn K (.ref c) qual = true) (S : FnScope N ps (defScope st))
    (h : ∀ (A : Around) (outer : List Env) (s : Shared) (H : Hp) (E : XK), Room k (A.deeper (envOfC qual (defScope st) s.heap.objs.size f (.ref c))) →
      FSs (cxOf (L2.CX P w) P w K mg base N qual (defScope st) f (.ref c) A outer s H E) (fun cls d _ H => E cls d H) (defBody st) b) :
    FnOk P w K mg base (L2.CX P w) (k + 1) f (PySem.W.fnOf x qual (defArgs st) (defBody st) (defScope st) .none kV doc pm an (.ref c) ct) ps (spM K mg ps.length (mDef N.length b)) := by
  refine ⟨fun vs H Q E hq => hq.1, fun A outer s H args us vs Q E hr e0 hb r hsp => ?_⟩
  have hl : vs.length = ps.length := hsp.1
  have kin : K.In s.heap := e0.mod.kin.keeps fun b o e => (e0.bs b o e).1
  have hkind : ∀ y ∈ ps.zip us, (defScope st).names.lookup y.1 = some .local ∨ ((defScope st).names.lookup y.1 = some .cell ∧ ((cellsFrom (s.heap.objs.size + 1) (defScope st).names []).lookup y.1).isSome = true) := fun y hy =>
    (S.par y.1 (List.of_mem_zip hy).1).elim .inl fun q => .inr ⟨q, PySem.W.cellsFrom_some _ _ _ (.inl q)⟩
  have lim : s.heap.NoLimit := e0.mod.nolimit.keeps fun b o e => (e0.bs b o e).1
  refine codeAny_call_function hr.depth (kin _ _ lk) rfl S.co S.gen rfl (PySem.W.codeRec_of kin hcd) (hb _ _ _ _ (wpAny_newFunctionEnv_cells S.kind hkind fun env he s1 z => ?_))
  subst he
  refine ⟨lim.keeps z.toInCall.keep, codeAny_func ?_⟩
  have I := inv_start (CX := L2.CX P w) (mg := mg) (E := E) S hr.hd e0 hl r z
  obtain ⟨hn, β, S', ds, rl, hv, q⟩ := hsp
  have t : tMS K mg (fun cls d _ H => E cls d H) b { nx := fun _ H' => Q .non H', rt := Q } (L2.start N vs) H := by
    refine ⟨β, S', ds.map some ++ List.replicate (N.length - ds.length) none, rl, en_start hv, ?_⟩
    unfold mDef at q
    cases e : b (ds.map some ++ List.replicate (N.length - ds.length) none) S' with
    | fl g S2 =>
      rw [e] at q
      cases g with
      | nx ρ => exact fun β' H2 σ' x r _ => q β' H2 .non x r .non
      | rt d => exact fun β' H2 v x r hv => q β' H2 v x r hv
    | ex x ρ S2 => rw [e] at q; exact fun cls od β' H2 σ' y r _ hx => q cls od β' H2 y r hx
    | stuck => rw [e] at q; exact q
  refine wpAny_mono ((h A outer s H E (hr.deeper _)).run [] s1 _ H _ I t) (fun fl s' back => ?_) fun e s' back => back
  match fl, back with
  | .ret u, ⟨v, σ', H', H2, J, rv, tk, q⟩ => exact ⟨v, H2, J.os, J.bare, un_tk (X := cxOf (L2.CX P w) P w K mg base N qual (defScope st) f (.ref c) A outer s H E) J.base tk, hok_tk J.hok tk, rv, q⟩
  | .next, ⟨σ', H', J, q⟩ => exact ⟨V.non, H', J.os, J.bare, J.base, J.hok, rfl, q⟩
  | .brk, back => exact back.elim
  | .cont, back => exact back.elim
end Eng

set_option maxHeartbeats 2000000
/-! The engine, part 23: functions made and handed back. -/
namespace Eng
open PySem PySem.Spec PyProof.Rows L2
variable [TabCfg]
section
variable {X : Cx} {pins : List (Addr × Obj)} {σ : L2.St} {H : Hp} {s : Shared}
/-- a lambda's object is laid; its code object is new, or found in the table -/
theorem lam_made {T : List NdefX.NTab} {nm : Nat → Nat → Str} {c P : Addr} {params : Arguments} {body : Expr} {scope : Scope} {pos : Pos} {fr : List Str} {E : Value → Shared → Prop} {Q : Value → Shared → Prop} (I : Inv X pins σ H s) (TB : LamX.TabB X.base X.mg c P) (hcode : X.env.code = .ref c)
    (hm : (P, nm) ∈ T) (hn : nm pos.line pos.col = X.env.qual ++ "<lambda>") (hu : ∀ p ∈ T, p.1 = P → p.2 = nm) (hT : NdefX.TabsN T H) (hdef : defaultsOf params X.env = ([], [])) (hfree : ∀ y ∈ scope.names, y.2 = .free → ∃ c, X.env.cells.lookup y.1 = some c)
    (h : ∀ (f c' : Addr) (H1 : Hp) (s' : Shared), Inv X pins σ H1 s' → LamX.ExtN H H1 → NdefX.TabsN T H1 → H f = none → H1 f = some (FnQ f ⟨"<lambda>", X.env.qual ++ "<lambda>", params, .expr body, scope, fr⟩ (cloFrom X.env.cells scope.names []) c') → H1 c' = some (LamX.CodeO c' (X.env.qual ++ "<lambda>")) → Q (.ref f) s') :
    wpAny (model X.prog X.w) X.A (eval (.Lambda params body scope pos) X.env) Q E s := by
  have lay : ∀ {H1 : Hp} {h' : Heap} {tk : Tok} {c' : Addr} {pm ctv : Value} {s1 : Shared}, Inv X pins σ H1 { s1 with heap := h', toks := tk } →
      Inv X pins σ (upd H1 h'.objs.size (FnQ h'.objs.size ⟨"<lambda>", X.env.qual ++ "<lambda>", params, .expr body, scope, fr⟩ (cloFrom X.env.cells scope.names []) c')) { s1 with heap := h'.push (PySem.W.kla_obj "<lambda>" (X.env.qual ++ "<lambda>") params body scope (cloFrom X.env.cells scope.names []) pm c' ctv), toks := tk } := fun {H1 h' tk c' pm ctv s1} J => by
    have e : (h'.push (PySem.W.kla_obj "<lambda>" (X.env.qual ++ "<lambda>") params body scope (cloFrom X.env.cells scope.names []) pm c' ctv)).get? h'.objs.size = some (PySem.W.kla_obj "<lambda>" (X.env.qual ++ "<lambda>") params body scope (cloFrom X.env.cells scope.names []) pm c' ctv) := Heap.get?_push_size _ rfl
    refine J.laid (a := h'.objs.size) (fun b u e => Heap.get?_push_of_some _ e) (Nat.le_refl _) ?_
    exact ⟨⟨_, _, _, pm, ctv, e⟩, ⟨_, e⟩, fun h1 h2 ⟨od, sl, d, p, t, z⟩ st => ⟨od, sl, d, p, t, st _ z⟩⟩
  obtain ⟨ps, hP, ht, ha⟩ := (show NdefX.TabN H P nm from hT _ hm)
  refine PySem.W.kla_eval hdef ?_
  have bP : s.heap.BuiltinsAt X.mg P := TB.bm.keeps I.bk
  have hP' : s.heap.get? P = some { cls := .none, data := .fields ps } := I.hok P _ hP
  cases hc : codeAmong pos ps.toList with
  | none =>
    refine PySem.W.kla_makeFunction (mg := X.mg) (c := c) (P := P) (ps := ps) (closure_ok hfree) I.ok.glob (I.mod.glob.keeps I.bk) hcode (TB.code.keeps I.bk) hP' ht hc TB.gP bP fun c' ctv h' tk hx hge hlt hrec htb => ?_
    obtain ⟨c2, oc, vs, t, e2, hoc, hd, hv⟩ := hrec
    cases e2
    have nC : H c' = none := I.hok.fresh hge
    have I1 := LamX.inv_table (q := X.env.qual ++ "<lambda>") (t' := tk) (more := #[rawInt pos.line, rawInt pos.col, .ref c']) (h' := h') I hP (fun b o hb e => hx b o hb e) htb hge ⟨oc, vs, t, hoc, hd, hv⟩
    generalize hH1 : upd (upd H P (.tbl (ps ++ #[rawInt pos.line, rawInt pos.col, .ref c']))) c' (LamX.CodeO c' (X.env.qual ++ "<lambda>")) = H1 at I1
    have hE : LamX.ExtN H H1 := fun b o e n => by
      rw [← hH1, upd_ne (ne_of_none e nC), upd_ne (fun z => n ps (Option.some.inj (e.symm.trans (by rw [z]; exact hP))))]
      exact e
    have hcode1 : H1 c' = some (LamX.CodeO c' (X.env.qual ++ "<lambda>")) := by rw [← hH1]; exact upd_same
    have eL : (ps ++ #[rawInt pos.line, rawInt pos.col, .ref c']).toList = ps.toList ++ [rawInt pos.line, rawInt pos.col, .ref c'] := by simp
    have T1 : NdefX.TabsN T H1 := fun p hp => by
      by_cases hb : p.1 = P
      · rw [hu p hp hb, hb]
        refine ⟨_, by rw [← hH1, upd_ne (ne_of_none hP nC), upd_same], by rw [eL]; exact PySem.TriplesOk_snoc _ _ _ _ ht, fun p' cv hcv => ?_⟩
        rw [eL] at hcv
        rcases NdefX.among_app2 _ ht hcv with z | ⟨z, z1, z2⟩
        · obtain ⟨c0, e1, e2⟩ := ha p' cv z
          exact ⟨c0, e1, hE _ _ e2 LamX.codeO_ne⟩
        · refine ⟨c', z, ?_⟩
          rw [← z1, ← z2, hn]
          exact hcode1
      · obtain ⟨ps', a1, a2, a3⟩ := hT p hp
        refine ⟨ps', by rw [← hH1, upd_ne (ne_of_none a1 nC), upd_ne hb]; exact a1, a2, fun p' cv hcv => ?_⟩
        obtain ⟨c0, e1, e2⟩ := a3 p' cv hcv
        exact ⟨c0, e1, hE _ _ e2 LamX.codeO_ne⟩
    have nF := I1.hok.fresh (Nat.le_refl _)
    have nF0 : H h'.objs.size = none := I.hok.fresh (Nat.le_trans hge (Nat.le_of_lt hlt))
    refine h h'.objs.size c' _ _ (lay I1) (fun b o e n => ?_) (T1.ext fun b o e => ?_) nF0 upd_same ?_
    · exact (upd_ne (ne_of_none (hE b o e n) nF)).trans (hE b o e n)
    · exact (upd_ne (ne_of_none e nF)).trans e
    · exact (upd_ne (ne_of_none hcode1 nF)).trans hcode1
  | some cv =>
    obtain ⟨c', e, hco⟩ := ha pos cv hc
    subst e
    rw [hn] at hco
    refine PySem.W.kla_makeFunctionHit (mg := X.mg) (c := c) (P := P) (ps := ps) (closure_ok hfree) I.ok.glob (I.mod.glob.keeps I.bk) hcode (TB.code.keeps I.bk) hP' ht hc bP fun ctv h' tk hx hsz => ?_
    have I1 : Inv X pins σ H { s with heap := h', toks := tk } := I.kept hx
    have nF : H h'.objs.size = none := I1.hok.fresh (Nat.le_refl _)
    refine h h'.objs.size c' _ _ (lay I1) (fun b o e n => ?_) (hT.ext fun b o e => ?_) nF upd_same ?_
    · exact (upd_ne (ne_of_none e nF)).trans e
    · exact (upd_ne (ne_of_none e nF)).trans e
    · exact (upd_ne (ne_of_none hco nF)).trans hco
end
/-! ### the store goes on from what was -/
section
variable {K : PySem.W.Frag} {mg : Str → Option Value} {β : List Addr} {H H1 : Hp} {S : Sto}
theorem xt_extN (e : LamX.ExtN H H1) : Xt K β H β H1 :=
  ⟨⟨[], by simp⟩, fun a xs h => e a _ h (fun ps z => (by cases z)), fun a xs h => e a _ h (fun ps z => (by cases z)), fun a q h => e a _ h LamX.codeO_ne, fun a W cl c h => e a _ h (fun ps z => (by unfold FnQ at z; cases z))⟩
theorem rl_extN (r : Rl K mg β H S) (e : LamX.ExtN H H1) (t : NdefX.TabsN TabCfg.tabs H1) : Rl K mg β H1 S :=
 by
  refine ⟨r.len, fun n a o h1 h2 => ?_, r.uniq, t⟩
  · have ho := r.at' n a o h1 h2
    refine ho.ext (xt_extN e) (fun hw => ?_) fun u v q => e a _ q fun ps z => (by cases z)
    obtain ⟨u, q, q1, q2⟩ := ho.tracked hw
    rw [q]
    exact e a u q fun ps z => by
      subst z
      cases o with
      | lst ds => obtain ⟨xs, h3, _⟩ := ho; rw [h3] at q; cases q
      | rdl ds => cases hw
      | dk ds => obtain ⟨xs, h3, _⟩ := ho; rw [h3] at q; cases q
      | dt ds => obtain ⟨xs, h3, _⟩ := ho; rw [h3] at q; cases q
      | ins C fs => obtain ⟨Ca, dx, xs, _, h3, _⟩ := ho; rw [h3] at q; cases q
      | exn C fs => obtain ⟨Ca, od, _, h3, _⟩ := ho; rw [h3] at q; unfold exoH at q; cases q
      | fn i W ns => obtain ⟨cl, c, h3, _⟩ := ho; rw [h3] at q; unfold FnQ at q; cases q
      | cel d => obtain ⟨v, h3, _⟩ := ho; rw [h3] at q; unfold CellO at q; cases q
      | opn => cases hw
/-- a thing that is tracked already comes into the store -/
theorem Rl.adopt (r : Rl K mg β H S) {p : Addr} {b : Ob} (hn : ∀ (n : Nat) (o : Ob), β[n]? = some p → S[n]? = some o → o.wr = true → False) (hb : ObR K mg (β ++ [p]) H p b) : Rl K mg (β ++ [p]) H (S ++ [b]) := by
  have x : Xt K β H (β ++ [p]) H := ⟨⟨[p], rfl⟩, fun _ _ h => h, fun _ _ h => h, fun _ _ h => h, fun _ _ _ _ h => h⟩
  have cs : ∀ (k : Nat) (c : Addr) (w : Ob), (β ++ [p])[k]? = some c → (S ++ [b])[k]? = some w → (k < β.length ∧ β[k]? = some c ∧ S[k]? = some w) ∨ (k = β.length ∧ c = p ∧ w = b) := by
    intro k c w e1 e2
    by_cases hk : k < β.length
    · rw [List.getElem?_append_left hk] at e1
      rw [List.getElem?_append_left (by rw [← r.len]; exact hk)] at e2
      exact .inl ⟨hk, e1, e2⟩
    · have hl := (List.getElem?_eq_some_iff.mp e1).1
      rw [List.length_append, List.length_singleton] at hl
      have e : k = β.length := by omega
      subst e
      rw [List.getElem?_append_right (Nat.le_refl _), Nat.sub_self] at e1
      rw [r.len, List.getElem?_append_right (Nat.le_refl _), Nat.sub_self] at e2
      exact .inr ⟨rfl, (Option.some.inj e1).symm, (Option.some.inj e2).symm⟩
  refine ⟨by simp [r.len], fun n a u h1 h2 => ?_, fun n m a u v h1 h2 h3 h4 w1 w2 => ?_, r.tabs⟩
  · rcases cs n a u h1 h2 with ⟨_, a1, a2⟩ | ⟨_, a1, a2⟩
    · exact (r.at' n a u a1 a2).ext x (fun _ => rfl) fun _ _ h => h
    · rw [a1, a2]; exact hb
  · rcases cs n a u h1 h3 with ⟨_, a1, a2⟩ | ⟨a1, a2, a3⟩ <;> rcases cs m a v h2 h4 with ⟨_, b1, b2⟩ | ⟨b1, b2, b3⟩
    · exact r.uniq n m a u v a1 b1 a2 b2 w1 w2
    · subst b2; exact (hn n u a1 a2 w1).elim
    · subst a2; exact (hn m v b1 b2 w2).elim
    · rw [a1, b1]
end
/-! ### the cells of the frame come into the store -/
section
variable {X : Cx} {pins : List (Addr × Obj)} {σ : L2.St} {H : Hp} {s : Shared}
/-- y's cell is c, it holds v, which is d -/
structure CapV (X : Cx) (H : Hp) (s : Shared) (β : List Addr) (y : Str) (c : Addr) (v : V) (d : D) : Prop where
  look : X.env.cells.lookup y = some c
  none' : H c = none
  new : X.s_0.heap.objs.size ≤ c
  held : ∃ u, RelV v u ∧ s.heap.IsCell c (some u)
  is : Vd X.K X.mg β H v d
theorem add_cells (G0 : Hp) : ∀ (L : List (Addr × V × D)) (β : List Addr) (G : Hp) (S : Sto), Rl X.K X.mg β G S → Tk X G0 G s → (L.map (·.1)).Nodup → (∀ t ∈ L, G0 t.1 = none ∧ G t.1 = none ∧ X.s_0.heap.objs.size ≤ t.1 ∧ (∃ u, RelV t.2.1 u ∧ s.heap.IsCell t.1 (some u)) ∧ Vd X.K X.mg β G t.2.1 t.2.2) →
    ∃ G', Xt X.K β G (β ++ L.map (·.1)) G' ∧ Rl X.K X.mg (β ++ L.map (·.1)) G' (S ++ L.map fun t => Ob.cel t.2.2) ∧ Tk X G0 G' s ∧ ∀ b u, G b = some u → G' b = some u
  | [], β, G, S, r, t, _, _ => ⟨G, by simpa using Xt.refl, by simpa using r, t, fun _ _ h => h⟩
  | (c, v, d) :: L, β, G, S, r, t, nd, h => by
    rw [List.map_cons] at nd
    obtain ⟨n1, n2⟩ := List.nodup_cons.mp nd
    obtain ⟨g0, g1, g2, g3, g4⟩ := h _ (List.mem_cons_self ..)
    have g1 : G c = none := g1
    have x : Xt X.K β G (β ++ [c]) (upd G c (CellO c v)) := xt_new g1
    have r' : Rl X.K X.mg (β ++ [c]) (upd G c (CellO c v)) (S ++ [.cel d]) := r.new g1 ⟨v, upd_same, g4.ext x⟩
    have t' : Tk X G0 (upd G c (CellO c v)) s := fun b => by
      by_cases hb : b = c
      · subst hb
        exact .inr ⟨g0, g2, v, upd_same, g3⟩
      · rw [upd_ne hb]
        exact t b
    obtain ⟨G', x2, r2, t2, k2⟩ := add_cells G0 L (β ++ [c]) _ (S ++ [.cel d]) r' t' n2 fun q hq => by
      obtain ⟨q0, q1, q2, q3, q4⟩ := h q (List.mem_cons_of_mem _ hq)
      have ne : q.1 ≠ c := fun z => n1 (by rw [← z]; exact List.mem_map.mpr ⟨q, hq, rfl⟩)
      exact ⟨q0, by rw [upd_ne ne]; exact q1, q2, q3, q4.ext x⟩
    rw [List.append_assoc, List.singleton_append] at r2 x2
    rw [List.append_assoc, List.singleton_append] at r2
    exact ⟨G', x.trans x2, r2, t2, fun b u e => k2 b u (keep_new g1 b u e)⟩
end
/-! ### what a def hands back -/
def slotsD (ρ : Env') : List Nat → Option (List D)
  | [] => some []
  | j :: r => match ρ[j]?, slotsD ρ r with
    | some (some d), some ds => some (d :: ds)
    | _, _ => none
/-- a new function with the words W, which captures the slots js -/
def retFn (i : Nat) (U : NW) (js : List Nat) : Ms := fun ρ S => match slotsD ρ js with
  | some es => .fl (.rt (.ref (S.length + es.length))) (S ++ es.map Ob.cel ++ [.fn i U (List.range' S.length es.length)])
  | none => .stuck
/-- how the names that are captured lie in the maker -/
structure Mkr (X : Cx) (U : NW) (js : List Nat) : Prop where
  nd : U.fr.Nodup
  at_ : js.map (fun j => X.N[j]?) = U.fr.map some
  cell : ∀ y ∈ U.fr, X.env.scope.names.lookup y = some .cell
  fn : ∀ y ∈ U.fr, X.fn y = true
  mem : ∀ y ∈ U.fr, (y, NameKind.free) ∈ U.scope.names
  sub : ∀ y ∈ U.scope.names, y.2 = .free → y.1 ∈ U.fr
theorem slotsD_len {ρ : Env'} : ∀ {js : List Nat} {es : List D}, slotsD ρ js = some es → es.length = js.length
  | [], _, e => by cases e; rfl
  | j :: r, es, e => by
    unfold slotsD at e
    cases q : ρ[j]? with
    | none => rw [q] at e; cases e
    | some o =>
      rw [q] at e
      cases o with
      | none => cases e
      | some d =>
        cases q2 : slotsD ρ r with
        | none => rw [q2] at e; cases e
        | some ds => rw [q2] at e; cases e; exact congrArg (· + 1) (slotsD_len q2)
section
variable {X : Cx} {W : WX} {pins : List (Addr × Obj)} {σ : L2.St} {H : Hp} {s : Shared}
theorem caps_of {β : List Addr} {ρ : Env'} (I : Inv X pins σ H s) (en : En X.K X.mg β H ρ σ) : ∀ (js : List Nat) (ys : List Str) (es : List D), js.map (fun j => X.N[j]?) = ys.map some → (∀ y ∈ ys, X.env.scope.names.lookup y = some .cell) → (∀ y ∈ ys, X.fn y = true) → slotsD ρ js = some es →
    ∃ L : List (Str × Addr × V × D), L.map (·.1) = ys ∧ L.map (·.2.2.2) = es ∧ ∀ t ∈ L, CapV X H s β t.1 t.2.1 t.2.2.1 t.2.2.2
  | [], [], es, _, _, _, e => by cases e; exact ⟨[], rfl, rfl, fun t ht => by cases ht⟩
  | [], y :: ys, es, h, _, _, e => by cases h
  | j :: js, [], es, h, _, _, e => by cases h
  | j :: js, y :: ys, es, h, hc, hf, e => by
    rw [List.map_cons, List.map_cons] at h
    injection h with h1 h2
    unfold slotsD at e
    cases q : ρ[j]? with
    | none => rw [q] at e; cases e
    | some o =>
      rw [q] at e
      cases o with
      | none => cases e
      | some d =>
        cases q2 : slotsD ρ js with
        | none => rw [q2] at e; cases e
        | some ds =>
          rw [q2] at e
          cases e
          obtain ⟨L, l1, l2, l3⟩ := caps_of I en js ys ds h2 (fun z hz => hc z (List.mem_cons_of_mem _ hz)) (fun z hz => hf z (List.mem_cons_of_mem _ hz)) q2
          obtain ⟨v, hv, vd⟩ := en.at' j d q
          have hk := hc y (List.mem_cons_self ..)
          obtain ⟨m, _, hl⟩ := I.loc
          obtain ⟨u, ru, lk⟩ := hl j y v h1 hv (.inr (.inl hk))
          rcases lk with ⟨z, _⟩ | ⟨_, c, e1, e2⟩
          · have z : X.env.scope.names.lookup y = some .local := z
            rw [hk] at z
            cases z
          · refine ⟨(y, c, v, d) :: L, by rw [List.map_cons, l1], by rw [List.map_cons, l2], fun t ht => ?_⟩
            rcases List.mem_cons.mp ht with rfl | ht
            · exact ⟨e1, I.freeC y c e1, I.ok.cab y c (hf y (List.mem_cons_self ..)) e1, ⟨u, ru, e2⟩, vd⟩
            · exact l3 t ht
/-- the function at f is handed back -/
theorem ret_fn {β : List Addr} {S : Sto} {ρ : Env'} {U : NW} {js : List Nat} {i : Nat} {f c' : Addr} {D' : Ends} (M : Mkr X U js) (I : Inv X pins σ H s) (rl : Rl X.K X.mg β H S) (en : En X.K X.mg β H ρ σ) (hf : H f = some (FnQ f U (cloFrom X.env.cells U.scope.names []) c')) (hc : H c' = some (LamX.CodeO c' U.qual))
    (hn : ∀ (n : Nat) (o : Ob), β[n]? = some f → S[n]? = some o → o.wr = true → False) (q : PoS X.K X.mg W β H (retFn i U js ρ S) D') : ∃ H2, Tk X H H2 s ∧ D'.rt (.ref f) H2 := by
  unfold retFn at q
  cases e : slotsD ρ js with
  | none => rw [e] at q; exact q.elim
  | some es =>
    rw [e] at q
    obtain ⟨L, l1, l2, l3⟩ := caps_of I en js U.fr es M.at_ M.cell M.fn e
    have hfree : ∀ y ∈ U.scope.names, y.2 = .free → ∃ c, X.env.cells.lookup y.1 = some c := fun y hy e => I.ok.has _ (.inl (M.cell _ (M.sub y hy e)))
    have inj : ∀ t ∈ L, ∀ u ∈ L, t.2.1 = u.2.1 → t.1 = u.1 := fun t ht u hu z => I.ok.inj _ _ _ (l3 t ht).look (by rw [z]; exact (l3 u hu).look)
    have nd : ((L.map fun t => (t.2.1, t.2.2.1, t.2.2.2)).map (·.1)).Nodup := by
      have n0 : (L.map (·.1)).Nodup := by rw [l1]; exact M.nd
      rw [List.map_map]
      clear l1 l2 e
      induction L with
      | nil => exact List.nodup_nil
      | cons t L ih =>
        rw [List.map_cons] at n0 ⊢
        obtain ⟨m1, m2⟩ := List.nodup_cons.mp n0
        refine List.nodup_cons.mpr ⟨fun z => ?_, ih (fun u hu => l3 u (List.mem_cons_of_mem _ hu)) (fun a ha b hb => inj a (List.mem_cons_of_mem _ ha) b (List.mem_cons_of_mem _ hb)) m2⟩
        obtain ⟨u, hu, e⟩ := List.mem_map.mp z
        have := inj u (List.mem_cons_of_mem _ hu) t (List.mem_cons_self ..) e
        exact m1 (List.mem_map.mpr ⟨u, hu, this⟩)
    obtain ⟨G', x, r', tk, kp⟩ := add_cells (X := X) (s := s) H (L.map fun t => (t.2.1, t.2.2.1, t.2.2.2)) β H S rl .refl nd fun p hp => by
      obtain ⟨t, ht, rfl⟩ := List.mem_map.mp hp
      have c := l3 t ht
      exact ⟨c.none', c.none', c.new, c.held, c.is⟩
    have m1 : (L.map fun t => (t.2.1, t.2.2.1, t.2.2.2)).map (·.1) = L.map (·.2.1) := by rw [List.map_map]; rfl
    have m2 : (L.map fun t => (t.2.1, t.2.2.1, t.2.2.2)).map (fun t => Ob.cel t.2.2) = es.map Ob.cel := by rw [List.map_map, ← l2, List.map_map]; rfl
    rw [m1] at x r'
    rw [m2] at r'
    have hLf : L.length = U.fr.length := by rw [← l1, List.length_map]
    have hLe : es.length = L.length := by rw [← l2, List.length_map]
    have hf' := kp f _ hf
    have hc' := kp c' _ hc
    have nof : ∀ t ∈ L, t.2.1 ≠ f := fun t ht z => by
      have := (l3 t ht).none'
      rw [z, hf] at this
      cases this
    have r2 : Rl X.K X.mg (β ++ L.map (·.2.1) ++ [f]) G' (S ++ es.map Ob.cel ++ [.fn i U (List.range' S.length es.length)]) := by
      refine r'.adopt (fun n o h1 h2 hw => ?_) ⟨_, c', hf', hc', ?_⟩
      · by_cases hb : n < β.length
        · rw [List.getElem?_append_left hb] at h1
          rw [List.getElem?_append_left (by rw [← rl.len]; exact hb)] at h2
          exact hn n o h1 h2 hw
        · rw [List.getElem?_append_right (by omega), List.getElem?_map] at h1
          cases z : L[n - β.length]? with
          | none => rw [z] at h1; cases h1
          | some t => rw [z] at h1; exact nof t (List.mem_of_getElem? z) (Option.some.inj h1)
      · refine ⟨by rw [List.length_range', hLe, hLf], fun j y hy => ?_, fun y a ha => ?_, fun y z a h1 h2 => I.ok.inj y z a (NdefX.clo_cm hfree h1) (NdefX.clo_cm hfree h2)⟩
        · have hj : j < L.length := by
            rw [hLf]
            exact (List.getElem?_eq_some_iff.mp hy).1
          have hyL : L[j].1 = y := by
            have : (L.map (·.1))[j]? = some y := by rw [l1]; exact hy
            rw [List.getElem?_map, List.getElem?_eq_getElem hj] at this
            exact Option.some.inj this
          have cv := l3 L[j] (List.getElem_mem _)
          refine ⟨S.length + j, L[j].2.1, ?_, ?_, ?_⟩
          · rw [List.getElem?_range' (by omega)]
            simp
          · rw [List.append_assoc, List.getElem?_append_right (by rw [rl.len]; omega), rl.len, Nat.add_sub_cancel_left, List.getElem?_append_left (by rw [List.length_map]; exact hj), List.getElem?_map, List.getElem?_eq_getElem hj]
            rfl
          · rw [← hyL]
            exact NdefX.clo_has hfree (M.mem _ (by rw [hyL]; exact List.mem_of_getElem? hy)) cv.look
        · rcases cloFrom_mem (PySem.mem_of_lookup ha) with hm | ⟨h1, _⟩
          · cases hm
          · exact M.sub _ h1 rfl
    have x2 : Xt X.K β H (β ++ L.map (·.2.1) ++ [f]) G' := ⟨by obtain ⟨l, e⟩ := x.pre; exact ⟨L.map (·.2.1) ++ [f], by rw [List.append_assoc]⟩, x.tup, x.xd, x.cod, x.fnq⟩
    refine ⟨G', tk, q _ _ (.ref f) x2 r2 (.ref ?_)⟩
    rw [List.getElem?_append_right (by rw [List.length_append, List.length_map, rl.len, hLe]; omega), List.length_append, List.length_map, rl.len, hLe, Nat.sub_self]
    rfl
end
end Eng

set_option maxHeartbeats 2000000
/-! The engine, part 24: the statements that hand functions back. -/
namespace Eng
open PySem PySem.Spec PyProof.Rows L2
variable [TabCfg]
theorem En.hole {K : PySem.W.Frag} {mg : Str → Option Value} {β : List Addr} {H : Hp} {ρ : Env'} {σ : L2.St} (e : En K mg β H ρ σ) (i : Nat) (o : Option V) : En K mg β H (ρ.set i none) (σ.set i o) := by
  refine ⟨by rw [List.length_set, List.length_set]; exact e.len, fun j d q => ?_⟩
  by_cases hj : i = j
  · subst hj
    by_cases hl : i < ρ.length
    · rw [List.getElem?_set_self hl] at q
      cases q
    · rw [List.getElem?_eq_none (by rw [List.length_set]; omega)] at q
      cases q
  · rw [List.getElem?_set_ne hj] at q ⊢
    exact e.at' j d q
/-- the table of the maker -/
structure TabX (X : Cx) (nm : Nat → Nat → Str) : Prop where
  ex : ∃ c P, LamX.TabB X.base X.mg c P ∧ X.env.code = .ref c ∧ (P, nm) ∈ TabCfg.tabs ∧ ∀ p ∈ TabCfg.tabs, p.1 = P → p.2 = nm
section
variable {X : Cx} {W : WX} {params : Arguments} {scope : Scope} {lpos pos dpos rpos npos ipos : Pos} {i gi : Nat} {U : NW} {js : List Nat} {nm : Nat → Nat → Str}
theorem Mkr.hfree (M : Mkr X U js) (ok : X.Ok) : ∀ y ∈ U.scope.names, y.2 = .free → ∃ c, X.env.cells.lookup y.1 = some c := fun y hy e => ok.has _ (.inl (M.cell _ (M.sub y hy e)))
theorem fs_retlam {body : Expr} (t : TabX X nm) (hn : nm lpos.line lpos.col = X.env.qual ++ "<lambda>") (hU : U = ⟨"<lambda>", X.env.qual ++ "<lambda>", params, .expr body, scope, U.fr⟩) (M : Mkr X U js) (hdef : defaultsOf params X.env = ([], []) := by rfl) : FS X W (.Return (some (.Lambda params body scope lpos)) pos) (retFn i U js) := by
  obtain ⟨c, P, TB, hcode, hm, hu⟩ := t
  have hsc : U.scope = scope := by rw [hU]
  refine ⟨fun pins s σ H D I ⟨β, S, ρ, rl, en, q⟩ => wpAny_Return_some (lam_made (T := TabCfg.tabs) (fr := U.fr) I TB hcode hm hn hu (fun p hp => rl.tabs p hp) hdef (by rw [← hsc]; exact M.hfree I.ok) fun f c' H1 s' I1 eN T1 f0 f1 c1 => ?_)⟩
  rw [← hU, ← hsc] at f1
  have hq : U.qual = X.env.qual ++ "<lambda>" := by rw [hU]
  rw [← hq] at c1
  obtain ⟨H2, tk, q2⟩ := ret_fn M I1 (rl_extN rl eN T1) (en.ext (xt_extN eN)) f1 c1 (fun n o h1 h2 hw => by
    obtain ⟨u, z, _⟩ := (rl.at' n f o h1 h2).tracked hw
    rw [f0] at z
    cases z) (q.xt (xt_extN eN))
  exact ⟨.ref f, σ, H1, H2, I1, rfl, tk, q2⟩
theorem def_run {body : List Stmt} {name : Str} {pins : List (Addr × Obj)} {s : Shared} {σ : L2.St} {H : Hp} {Q : Flow → Shared → Prop} {rest : List Stmt} (t : TabX X nm) (hn : nm dpos.line dpos.col = X.env.qual ++ name) (hU : U = ⟨name, X.env.qual ++ name, params, .stmts body, scope, U.fr⟩) (M : Mkr X U js) (hd0 : params.defaults = []) (hk0 : params.kw_defaults = []) (ha : annTrees params none X.env = [])
    (hN : X.N.Nodup) (hi : X.N[gi]? = some name) (hx : Loc X.env.scope name) (hf : X.fn name = true ∨ X.env.scope.names.lookup name = some .local) (I : Inv X pins σ H s) (hT : NdefX.TabsN TabCfg.tabs H)
    (k : ∀ (f c' : Addr) (H' : Hp) (s' : Shared), Inv X pins (σ.set gi (some (.ref f))) H' s' → LamX.ExtN H H' → NdefX.TabsN TabCfg.tabs H' → H f = none → H' f = some (FnQ f U (cloFrom X.env.cells U.scope.names []) c') → H' c' = some (LamX.CodeO c' U.qual) → wpAny (model X.prog X.w) X.A (execs rest X.env) Q X.xe s') :
    wpAny (model X.prog X.w) X.A (execs (.FunctionDef name params body [] none [] scope none name dpos :: rest) X.env) Q X.xe s := by
  obtain ⟨c, P, TB, hcode, hm, hu⟩ := t
  have hsc : U.scope = scope := by rw [hU]
  have hfr : ∀ y ∈ scope.names, y.2 = .free → X.env.scope.names.lookup y.1 = some .cell ∨ X.env.scope.names.lookup y.1 = some .free := fun y hy e => .inl (M.cell _ (M.sub y (by rw [hsc]; exact hy) e))
  let Nx : L2.St → Hp → Prop := fun σ' H' => ∃ f c', σ' = σ.set gi (some (.ref f)) ∧ LamX.ExtN H H' ∧ NdefX.TabsN TabCfg.tabs H' ∧ H f = none ∧ H' f = some (NdefX.FnO f (U.nf body (cloFrom X.env.cells U.scope.names []) c')) ∧ H' c' = some (LamX.CodeO c' U.qual)
  have key : NdefX.tNdef TabCfg.tabs gi (fun c' => ⟨name, X.env.qual ++ name, params, body, scope, cloFrom X.env.cells scope.names [], c'⟩) { nx := Nx, rt := fun _ _ => False } σ H :=
    ⟨hT, fun f c' H1 e t1 f0 f1 c1 => (⟨f, c', rfl, e, t1, f0, by rw [hU]; exact f1, by rw [hU]; exact c1⟩ : Nx (σ.set gi (some (.ref f))) H1)⟩
  refine wpAny_execs_cons (thn ((NdefX.ps_ndef (X := X) (i := gi) (T := TabCfg.tabs) TB hcode hm hn hu hfr hd0 hk0 ha hN hi hx hf).run pins s σ H _ I key) fun fl s1 q => ?_)
  match fl, q with
  | .next, q =>
    obtain ⟨σ', H', J, f, c', rfl, e, t1, f0, f1, c1⟩ := q
    exact k f c' H' s1 J e t1 f0 (by rw [fnq_stmts (b := body) (by rw [hU])]; exact f1) c1
  | .ret u, ⟨_, _, _, _, _, q⟩ => exact q.elim
  | .brk, ⟨_, _, _, q⟩ => exact q.elim
  | .cont, ⟨_, _, _, q⟩ => exact q.elim
def sDefRet (gi i : Nat) (U : NW) (js : List Nat) : Ms := fun ρ S => retFn i U js (ρ.set gi none) S
theorem fss_defret {body : List Stmt} {name : Str} (t : TabX X nm) (hn : nm dpos.line dpos.col = X.env.qual ++ name) (hU : U = ⟨name, X.env.qual ++ name, params, .stmts body, scope, U.fr⟩) (M : Mkr X U js) (hN : X.N.Nodup) (hi : X.N[gi]? = some name := by rfl) (hx : Loc X.env.scope name := by first | exact .inl rfl | exact .inr rfl)
    (hf : X.fn name = true ∨ X.env.scope.names.lookup name = some .local := by first | exact .inl rfl | exact .inr rfl) (hv : Vis X.env.scope name := by first | exact .inl rfl | exact .inr (.inl rfl)) (hd0 : params.defaults = [] := by rfl) (hk0 : params.kw_defaults = [] := by rfl) (ha : annTrees params none X.env = [] := by rfl)
    (hd : (name == ("__debug__" : Str)) = false := by decide) (hcd : (name == ("__classdict__" : Str)) = false := by decide) :
    FSs X W [.FunctionDef name params body [] none [] scope none name dpos, .Return (some (.Name name npos)) rpos] (sDefRet gi i U js) := by
  refine ⟨fun pins s σ H D I ⟨β, S, ρ, rl, en, q⟩ => def_run t hn hU M hd0 hk0 ha hN hi hx hf I (fun p hp => rl.tabs p hp) fun f c' H1 s1 J eN T1 f0 f1 c1 => ?_⟩
  have hl : gi < σ.length := by rw [I.len]; exact (List.getElem?_eq_some_iff.mp hi).1
  have hs : (σ.set gi (some (V.ref f)))[gi]? = some (some (.ref f)) := List.getElem?_set_self hl
  refine wpAny_execs_cons (wpAny_Return_some (thn ((pe_var (pos := npos) (i := gi) hi hv hd hcd).run pins s1 _ H1 (fun v H2 => v = .ref f ∧ H2 = H1) J ⟨.ref f, hs, rfl, rfl⟩) fun u s2 ⟨v, H2, J2, rv, ev, eH⟩ => ?_))
  subst ev
  rw [eH] at J2
  obtain ⟨H3, tk, q2⟩ := ret_fn M J2 (rl_extN rl eN T1) ((en.hole gi (some (.ref f))).ext (xt_extN eN)) f1 c1 (fun n o h1 h2 hw => by
    obtain ⟨u, z, _⟩ := (rl.at' n f o h1 h2).tracked hw
    rw [f0] at z
    cases z) ((show PoS X.K X.mg W β H (retFn i U js (ρ.set gi none) S) D from q).xt (xt_extN eN))
  exact ⟨.ref f, _, H1, H3, J2, rv, tk, q2⟩
open Classical in
noncomputable def sDefIf (gi i : Nat) (U : NW) (js : List Nat) (mc : Mb) (a : Ms) : Ms := fun ρ S => (mc (ρ.set gi none) S).st (ρ.set gi none) fun k S1 => if S1 = S then (if k = true then (match a (ρ.set gi none) S1 with
  | .fl (.nx _) _ => .stuck
  | r => r) else retFn i U js (ρ.set gi none) S1) else .stuck
theorem fss_defif {body p : List Stmt} {name : Str} {c : Expr} {mc : Mb} {a : Ms} (t : TabX X nm) (hn : nm dpos.line dpos.col = X.env.qual ++ name) (hU : U = ⟨name, X.env.qual ++ name, params, .stmts body, scope, U.fr⟩) (M : Mkr X U js) (hc : MT X W c mc) (hp : FSs X W p a) (hN : X.N.Nodup) (hi : X.N[gi]? = some name := by rfl) (hx : Loc X.env.scope name := by first | exact .inl rfl | exact .inr rfl)
    (hf : X.fn name = true ∨ X.env.scope.names.lookup name = some .local := by first | exact .inl rfl | exact .inr rfl) (hv : Vis X.env.scope name := by first | exact .inl rfl | exact .inr (.inl rfl)) (hd0 : params.defaults = [] := by rfl) (hk0 : params.kw_defaults = [] := by rfl) (ha : annTrees params none X.env = [] := by rfl)
    (hd : (name == ("__debug__" : Str)) = false := by decide) (hcd : (name == ("__classdict__" : Str)) = false := by decide) :
    FSs X W [.FunctionDef name params body [] none [] scope none name dpos, .If c p [] ipos, .Return (some (.Name name npos)) rpos] (sDefIf gi i U js mc a) := by
  refine ⟨fun pins s σ H D I ⟨β, S, ρ, rl, en, q⟩ => def_run t hn hU M hd0 hk0 ha hN hi hx hf I (fun p hp => rl.tabs p hp) fun f c' H1 s1 J eN T1 f0 f1 c1 => ?_⟩
  have hl : gi < σ.length := by rw [I.len]; exact (List.getElem?_eq_some_iff.mp hi).1
  have hs : (σ.set gi (some (V.ref f)))[gi]? = some (some (.ref f)) := List.getElem?_set_self hl
  have rl1 := rl_extN rl eN T1
  have en1 := (en.hole gi (some (.ref f))).ext (xt_extN (β := β) (K := X.K) eN)
  have q1 := PoS.st ((show PoS X.K X.mg W β H (sDefIf gi i U js mc a ρ S) D from q).xt (xt_extN eN)) en1
  have hno : ∀ (n : Nat) (o : Ob), β[n]? = some f → S[n]? = some o → o.wr = true → False := fun n o h1 h2 hw => by
    obtain ⟨u, z, _⟩ := (rl.at' n f o h1 h2).tracked hw
    rw [f0] at z
    cases z
  have ret : ∀ {H2 : Hp} {s2 : Shared} {S2 : Sto}, Inv X pins (σ.set gi (some (.ref f))) H2 s2 → Rl X.K X.mg β H2 S2 → En X.K X.mg β H2 (ρ.set gi none) (σ.set gi (some (.ref f))) → H2 f = some (FnQ f U (cloFrom X.env.cells U.scope.names []) c') → H2 c' = some (LamX.CodeO c' U.qual) →
      (∀ (n : Nat) (o : Ob), β[n]? = some f → S2[n]? = some o → o.wr = true → False) → PoS X.K X.mg W β H2 (retFn i U js (ρ.set gi none) S2) D → wpAny (model X.prog X.w) X.A (execs [.Return (some (.Name name npos)) rpos] X.env) (FP X pins D) X.xe s2 := fun {H2 s2 S2} J2 rl2 en2 f2 c2 no2 q2 => by
    refine wpAny_execs_cons (wpAny_Return_some (thn ((pe_var (pos := npos) (i := gi) hi hv hd hcd).run pins s2 _ H2 (fun v H3 => v = .ref f ∧ H3 = H2) J2 ⟨.ref f, hs, rfl, rfl⟩) fun u s3 ⟨v, H3, J3, rv, ev, eH⟩ => ?_))
    subst ev
    rw [eH] at J3
    obtain ⟨H4, tk, q3⟩ := ret_fn M J3 rl2 en2 f2 c2 no2 q2
    exact ⟨.ref f, _, H2, H4, J3, rv, tk, q3⟩
  have step : tMT X.K X.mg W mc (σ.set gi (some (.ref f))) H1 fun k H2 => if k = true then tMS X.K X.mg W a { nx := fun _ _ => False, rt := D.rt } (σ.set gi (some (.ref f))) H2 else Rl X.K X.mg β H2 S ∧ En X.K X.mg β H2 (ρ.set gi none) (σ.set gi (some (.ref f))) ∧ Xt X.K β H1 β H2 ∧ PoS X.K X.mg W β H2 (retFn i U js (ρ.set gi none) S) D := by
    refine ⟨β, S, ρ.set gi none, rl1, en1, q1.mono fun k β2 S2 H2 x2 r2 q2 => ?_⟩
    by_cases hlen : S2 = S
    · rw [if_pos hlen] at q2
      subst hlen
      have hβ : β2 = β := by
        obtain ⟨l, e⟩ := x2.pre
        have hl2 := r2.len
        rw [← rl1.len, e, List.length_append] at hl2
        have : l = [] := List.length_eq_zero_iff.mp (by omega)
        rw [e, this, List.append_nil]
      subst hβ
      cases k with
      | true =>
        rw [if_pos rfl] at q2 ⊢
        refine ⟨_, S2, ρ.set gi none, r2, en1.ext x2, ?_⟩
        cases e : a (ρ.set gi none) S2 with
        | fl g S3 =>
          rw [e] at q2
          cases g with
          | nx ρ3 => exact q2.elim
          | rt d => exact q2
        | ex z ρ3 S3 => rw [e] at q2; exact q2
        | stuck => rw [e] at q2; exact q2.elim
      | false =>
        rw [if_neg (by decide)] at q2 ⊢
        exact ⟨r2, en1.ext x2, x2, q2⟩
    · rw [if_neg hlen] at q2
      exact q2.elim
  refine wpAny_execs_cons (wpAny_If (thn (hc.pt.run pins s1 _ H1 _ J step) fun k s2 ⟨H2, J2, q2⟩ => ?_))
  cases k with
  | true =>
    refine thn (hp.run pins s2 _ H2 _ J2 q2) fun fl s3 q3 => ?_
    match fl, q3 with
    | .next, ⟨_, _, _, q3⟩ => exact q3.elim
    | .ret u, q3 => exact q3
    | .brk, q3 => exact q3.elim
    | .cont, q3 => exact q3.elim
  | false =>
    obtain ⟨r2, e2, x2, q2⟩ := q2
    exact wpAny_execs_nil (ret J2 r2 e2 (x2.fnq _ _ _ _ f1) (x2.cod _ _ c1) hno q2)
end
end Eng

set_option maxHeartbeats 2000000
/-! The engine, part 25: the law's end where defs give back functions. -/
namespace Eng
open PySem PySem.Spec PyProof.Rows L2
/-- what is asked of the law's own def, the tables empty -/
def spT [TabCfg] (K : PySem.W.Frag) : Sp := fun vs H Q _ => ∃ (a : Addr) (ns : List Int), vs = [.ref a] ∧ ns.length ≤ 63 ∧ SqL K H a (ns.map V.int) ∧ (∀ p ∈ TabCfg.tabs, H p.1 = some (.tbl #[])) ∧ ∀ H', Q (.bl true) H'
section
variable {H H' : Hp} {a : Addr} {xs : List V} {ob : Obj} {h h' B : Heap} {fs : List Addr} {P : Program} {w : World}
theorem un_frz (hl : H a = some (.lst xs)) (u : Un fs [] (upd H a (.frz ob (.lst xs))) H' h h') : Un fs [] H H' h h' := by
  have out : ∀ b o, H b = some o → (∀ ys, o ≠ .lst ys) → upd H a (.frz ob (.lst xs)) b = some o := fun b o e n => by
    rw [upd_ne (fun z => n xs (by rw [z, hl] at e; exact (Option.some.inj e).symm))]; exact e
  have none' : ∀ b, H b = none → upd H a (.frz ob (.lst xs)) b = none := fun b e => by
    rw [upd_ne (fun z => by rw [z, hl] at e; cases e)]; exact e
  exact ⟨fun b o e n => u.keep b o e (none' b n), fun b o e n => u.slot b o e (none' b n), fun b o e n => u.free b o e (none' b n), u.there,
    fun b ys e => u.tups b ys (out b _ e (fun _ z => nomatch z)), fun b o ys e => u.frzs b o ys (out b _ e (fun _ z => nomatch z)), fun b ps e => u.tbls b ps (out b _ e (fun _ z => nomatch z))⟩
end
theorem law_endT [TabCfg] {P : Program} {w : World} {K : PySem.W.Frag} {mg : Str → Option Value} {base : Heap} {k : Nat} {f : Addr} {fd : FuncData} {ps : List Str} {m : List D → Sto → R D} (F : FnOk P w K mg base (L2.CX P w) k f fd ps (spM K mg 1 m))
    (h : ∀ ns : List Int, ns.length ≤ 63 → ∃ S, m [.ref 0] [.rdl (ns.map D.int)] = .ok (.bl true) S) (plen : ps.length = 1 := by rfl) : FnOk P w K mg base (L2.CX P w) k f fd ps (spT K) := by
  refine ⟨fun vs H Q E ⟨a, ns, e, _⟩ => by rw [e, plen]; rfl, fun A outer s H args us vs Q E hr e0 hb r ⟨a, ns, e, hl, hS, hT, q⟩ => ?_⟩
  subst e
  have main : ∀ G : Hp, Env0 P w K mg base A outer s G → (∀ p ∈ TabCfg.tabs, G p.1 = some (.tbl #[])) → ((∃ o, G a = some (.frz o (.lst (ns.map V.int)))) ∨ ∃ (o : Obj) (its : Array Value) (n : Nat), K.lookup a = some o ∧ o.cls = .type "list" ∧ o.dict = none ∧ o.data = .seq its n ∧ its.size ≤ sizeLine ∧ Vals (ns.map V.int) its.toList) →
      codeAny (model P w) A (.call (.ref f) args) (CR (L2.CX P w) outer P w G s (fun v _ => v = .bl true) fun _ _ _ => False) s := by
    intro G g0 gT gS
    refine F.run A outer s G args us [.ref a] _ _ hr g0 hb r ⟨rfl, [a], [.rdl (ns.map D.int)], [.ref 0], ⟨rfl, fun n b o h1 h2 => ?_, fun n m b o u h1 h2 h3 h4 w1 w2 => ?_, fun p hp => NdefX.TabN.nil (gT p hp)⟩, .cons (.ref rfl) .nil, ?_⟩
    · match n, h1, h2 with
      | 0, h1, h2 =>
        cases h1
        cases h2
        exact ⟨_, gS, vds_ints ns⟩
      | n + 1, h1, h2 => simp at h1
    · match n, m, h1, h2 with
      | 0, 0, _, _ => rfl
      | n + 1, _, h1, _ => simp at h1
      | 0, m + 1, _, h2 => simp at h2
    · obtain ⟨S, e⟩ := h ns hl
      rw [e]
      intro β' H' v _ _ hv
      cases hv
      rfl
  have fin : ∀ G : Hp, (∀ H' h', Un (frs outer) [] G H' s.heap h' → Un (frs outer) [] H H' s.heap h') → codeAny (model P w) A (.call (.ref f) args) (CR (L2.CX P w) outer P w G s (fun v _ => v = .bl true) fun _ _ _ => False) s →
      codeAny (model P w) A (.call (.ref f) args) (CR (L2.CX P w) outer P w H s Q E) s := fun G un c => codeAny_mono c fun res s' back => by
    match res, back with
    | .error y, back =>
      obtain ⟨_, _, _, _, _, _, _, _, _, _, _, _, z⟩ := back
      exact z.elim
    | .ok (.ret u), back =>
      obtain ⟨v, H', os, bare, u1, ok', rv, ev⟩ := back
      subst ev
      exact ⟨_, H', os, bare, un _ _ u1, ok', rv, q H'⟩
    | .ok .next, back => exact back.elim
    | .ok .brk, back => exact back.elim
    | .ok .cont, back => exact back.elim
  rcases hS with (h1 | h1) | h1
  · obtain ⟨o, ho⟩ : ∃ o, s.heap.get? a = some o := by
      obtain ⟨_, its, n, _, e⟩ := (show ObjOk P w H s.heap a (.lst (ns.map V.int)) from e0.hok a _ h1)
      exact ⟨_, e⟩
    refine fin _ (fun H' h' u => un_frz (ob := o) h1 u) (main (upd H a (.frz o (.lst (ns.map V.int)))) ?_ (fun p hp => ?_) (.inl ⟨o, upd_same⟩))
    · have none' : ∀ b, H b = none → upd H a (.frz o (.lst (ns.map V.int))) b = none := fun b e => by
        rw [upd_ne (fun z => by rw [z, h1] at e; cases e)]; exact e
      have out : ∀ b u, H b = some u → (∀ ys, u ≠ .lst ys) → upd H a (.frz o (.lst (ns.map V.int))) b = some u := fun b u e n => by
        rw [upd_ne (fun z => n _ (by rw [z, h1] at e; exact (Option.some.inj e).symm))]; exact e
      refine ⟨e0.frames, e0.mod, fun b o hb => ⟨(e0.bs b o hb).1, none' b (e0.bs b o hb).2⟩, e0.bsz, e0.funs, fun b hb => none' b (e0.frf b hb), fun b u e => ?_, e0.bare⟩
      by_cases hba : b = a
      · subst hba
        rw [upd_same] at e
        cases e
        exact ⟨ho, (e0.hok b _ h1).stay (fun _ _ _ q => q) (fun c q => out c _ q fun _ z => nomatch z) fun c ys q => out c _ q fun _ z => nomatch z⟩
      · rw [upd_ne hba] at e
        exact (e0.hok b u e).stay (fun _ _ _ q => q) (fun c q => out c _ q fun _ z => nomatch z) fun c ys q => out c _ q fun _ z => nomatch z
    · rw [upd_ne (fun z => by
        have := hT p hp
        rw [z, h1] at this
        cases this)]
      exact hT p hp
  · exact fin H (fun _ _ u => u) (main H e0 hT (.inl h1))
  · exact fin H (fun _ _ u => u) (main H e0 hT (.inr h1))
/-- the walk, the makers' tables empty at its start -/
theorem walk_engT {l : PySem.W.OpenLaw} {k : Nat} {q : Program} {loose : List Str} {XP : (Str → Option Value) → Heap → Prop} {YP : World → Heap → Prop} {d : DefRec} {K : Params → PySem.W.Frag} {x : Str} (mks : List Str)
    (hn : l.most = some 63) (hdf : d.params.defaults = []) (hr : Room k callerA) (hrec : ∀ y ∈ mks, ((recsOf q).any fun e => e.name == y) = true) (hY : ∀ (w : World) (h : Heap), YP w h → (K w.params).In h)
    (F : ∀ (w : World) (mg : Str → Option Value) (fa : Addr) (h : Heap), (K w.params).In h → h.Ns mainGlobals mg → mg d.name = some (.ref fa) → (∀ y ∈ mks, ∀ f, mg y = some (.ref f) → LamX.OwnTab (K w.params) f h) → LamX.LawAtS l w (K w.params) (L2.CX l.prog w) k 63 x mg fa h) :
    PySem.W.WalkO q loose XP YP l.row.toRowW d [] (fun f vs => PySem.call f vs) := by
  refine Att.attach_callB hn hdf fun w s₀ s₁ mg mb fa o pm cd doc a vs ns G Y ho hd hcd hmg hobj hints hlen hbits hg => ?_
  have kin := hY w _ Y
  have own : ∀ y ∈ mks, ∀ f, mg y = some (.ref f) → LamX.OwnTab (K w.params) f s₁.heap := fun y hy f hf c P o1 fd1 e dd vs1 sl k1 k2 k3 k4 k5 => by
    obtain ⟨r, r1, r2⟩ := List.any_eq_true.mp (hrec y hy)
    have t := G.T.tab r r1
    rw [beq_iff_eq.mp r2, hf] at t
    obtain ⟨a', o', fd', c', P', g1, g2, g3, g4, _, g6⟩ := t
    cases g1
    rw [kin _ _ k1] at g2
    cases g2
    rw [k2] at g3
    cases g3
    rw [k3] at g4
    cases g4
    obtain ⟨⟨oc, vc, z1, _, z3, z4⟩, z⟩ := g6
    rw [kin _ _ k4] at z1
    cases z1
    cases z3
    rw [k5] at z4
    cases z4
    exact z
  obtain ⟨fd, cs, sp, hT, nT, C, hb, hsp, hF⟩ := F w mg fa _ kin G.T.g hmg own
  exact LamX.law_callTs kin G.T.g G.T.b G.T.builtins G.T.nolimit hg hT nT C G.T.bmain hobj hints (Nat.le_trans hlen (by decide)) hr hF hb (fun H hH hS => hsp H a ns hlen hbits hH hS) fun H e s' c => by
    obtain ⟨_, _, _, _, _, _, _, _, _, _, _, _, z⟩ := c
    exact z
end Eng

set_option maxHeartbeats 2000000
/-! The engine, part 26: setdefault; rows for simp about functions. -/
namespace Eng
open PySem PySem.Spec PyProof.Rows L2
section
variable {X : Cx} {pins : List (Addr × Obj)} {σ : L2.St} {H : Hp} {s : Shared} {a b : Addr} {r : Value} {d : V} {A : Around} {E : Value → Shared → Prop}
/-- d.setdefault(t, x), t a tuple -/
theorem t_setd {kvs : List (List Key × V)} {k : List Key} {Q : Value → Shared → Prop} (hu : A.units + 1 < cLine) (I : Inv X pins σ H s) (e : H a = some (.dT kvs)) (eb : H b = some (.tup (k.map kV))) (rd : RelV d r) (hl : kvs.length < sizeLine)
    (h1 : ∀ v, valV kvs k = some v → ∀ (w' : Value) (s' : Shared), Inv X pins σ H s' → RelV v w' → Q w' s') (h2 : valV kvs k = none → ∀ s' : Shared, Inv X pins σ (upd H a (.dT (putK kvs k d))) s' → Q r s') :
    wpAny (model X.prog X.w) A (call (.builtin "dict.setdefault") [.ref a, .ref b, r]) Q E s := by
  obtain ⟨z, hd, xs, rel, dd⟩ := dt_of I.hok e
  have hval := rel.val k
  refine call_setdefault_heap (hsz := by rw [← Paired.length rel]; exact z) (tupleKind_room_in1 hu) (key_of I.hok eb) hd dd (fun p hp => ?_) fun hn h' dd' hs => ?_
  · rw [hp] at hval
    cases q : valV kvs k with
    | none => rw [q] at hval; exact (show False from hval).elim
    | some v => rw [q] at hval; exact h1 v q _ _ (I.tok _) hval
  · rw [hn] at hval
    cases q : valV kvs k with
    | some v => rw [q] at hval; exact (show False from hval).elim
    | none =>
      have hl2 : (putK kvs k d).length ≤ sizeLine := Nat.le_trans (length_putK kvs k d) hl
      obtain ⟨o, es, ep, ho, g2, g3, g4, _, g5⟩ := dd'
      refine h2 q _ (d_write I (by rw [e]; exact True.intro) hs ⟨o, ho⟩ ⟨hl2, hd, _, (rel.put k eb rd).keeps fun c ys ec => ?_, o, es, ep, ho, g2, g3, g4, g5⟩)
      rw [upd_ne (ne_of ec e (fun z => nomatch z))]
      exact ec
end
def setdD (n : Nat) (y z : D) (S : Sto) : R D := match S[n]? with
  | some (.dk kvs) => match keyD y with
    | some k => if kvs.length < sizeLine then (match valD kvs k with
      | some d => .ok d S
      | none => .ok z (S.set n (.dk (putD kvs k z)))) else .stuck
    | none => .stuck
  | some (.dt kvs) => match keyT y with
    | some k => if kvs.length < sizeLine then (match valD kvs k with
      | some d => .ok d S
      | none => .ok z (S.set n (.dt (putD kvs k z)))) else .stuck
    | none => .stuck
  | _ => .stuck
def mSetd (mo mk mv : Mx) : Mx := fun ρ S => (mo ρ S).bind fun o S1 => match dictAt o S1 with
  | some n => (mk ρ S1).bind fun y S2 => (mv ρ S2).bind fun z S3 => setdD n y z S3
  | none => .stuck
section
variable [TabCfg] {X : Cx} {W : WX} {pos apos : Pos} {o e f : Expr} {mo me mf : Mx}
theorem setdD_run {pins : List (Addr × Obj)} {σ : L2.St} {H : Hp} {s : Shared} {β : List Addr} {S : Sto} {n : Nat} {a : Addr} {y z : D} {vy vz : V} {u r : Value} {Q : VK} (hu : X.A.units + 1 < cLine) (I : Inv X pins σ H s) (rl : Rl X.K X.mg β H S) (h : β[n]? = some a) (hy : Vd X.K X.mg β H vy y) (hz : Vd X.K X.mg β H vz z) (ry : RelV vy u) (rz : RelV vz r)
    (q : Po X.K X.mg W σ β H (setdD n y z S) fun x β' _ H' => ∀ v, Vd X.K X.mg β' H' v x → Q v H') : wpAny (model X.prog X.w) X.A (call (.builtin "dict.setdefault") [.ref a, u, r]) (EP X pins σ Q) X.xe s := by
  unfold setdD at q
  cases e1 : S[n]? with
  | none => rw [e1] at q; exact q.elim
  | some ob =>
    rw [e1] at q
    have ho := rl.at' n a ob h e1
    cases ob with
    | dk kvs =>
      dsimp only at q
      obtain ⟨xs, g1, g2⟩ := ho
      cases e2 : keyD y with
      | none => rw [e2] at q; exact q.elim
      | some k =>
        rw [e2] at q
        dsimp only at q
        by_cases hl : kvs.length < sizeLine
        · rw [if_pos hl] at q
          have ek := keyD_ok hy e2
          subst ek
          have hval := g2.val k
          refine d_setd I g1 ry rz (by rw [g2.length]; exact hl) (fun v hv w' s' J rv => ?_) fun hn w' s' J rv => ?_
          · rw [hv] at hval
            cases e3 : valD kvs k with
            | none => rw [e3] at hval; exact hval.elim
            | some d =>
              rw [e3] at q hval
              exact ⟨v, H, J, rv, q β H .refl rl v hval⟩
          · rw [hn] at hval
            cases e3 : valD kvs k with
            | some d => rw [e3] at hval; exact hval.elim
            | none =>
              rw [e3] at q
              obtain ⟨r', x'⟩ := rl.write (o := .dK (putK xs k vz)) (b' := .dk (putD kvs k z)) h e1 rfl rfl fun x => ⟨_, upd_same, (g2.put k hz).ext x⟩
              exact ⟨vz, _, J, rv, q β _ x' r' vz (hz.ext x')⟩
        · rw [if_neg hl] at q; exact q.elim
    | dt kvs =>
      dsimp only at q
      obtain ⟨xs, g1, g2⟩ := ho
      cases e2 : keyT y with
      | none => rw [e2] at q; exact q.elim
      | some k =>
        rw [e2] at q
        dsimp only at q
        by_cases hl : kvs.length < sizeLine
        · rw [if_pos hl] at q
          obtain ⟨b, rfl, eb⟩ := keyT_ok hy e2
          obtain rfl : u = Value.ref b := ry
          have hval := g2.val k
          refine t_setd hu I g1 eb rz (by rw [g2.length]; exact hl) (fun v hv w' s' J rv => ?_) fun hn s' J => ?_
          · rw [hv] at hval
            cases e3 : valD kvs k with
            | none => rw [e3] at hval; exact hval.elim
            | some d =>
              rw [e3] at q hval
              exact ⟨v, H, J, rv, q β H .refl rl v hval⟩
          · rw [hn] at hval
            cases e3 : valD kvs k with
            | some d => rw [e3] at hval; exact hval.elim
            | none =>
              rw [e3] at q
              obtain ⟨r', x'⟩ := rl.write (o := .dT (putK xs k vz)) (b' := .dt (putD kvs k z)) h e1 rfl rfl fun x => ⟨_, upd_same, (g2.put k hz).ext x⟩
              exact ⟨vz, _, J, rz, q β _ x' r' vz (hz.ext x')⟩
        · rw [if_neg hl] at q; exact q.elim
    | _ => exact q.elim
theorem me_setd (hu : X.A.units + 1 < cLine) (ho : ME X W o mo) (he : ME X W e me) (hf : ME X W f mf) (m : M2 X o "setdefault" apos e f pos := by exact ⟨rfl, rfl, rfl, rfl⟩) : ME X W (.Call (.Attribute o "setdefault" apos) [e, f] [] pos) (mSetd mo me mf) := by
  refine ⟨⟨fun pins s σ H Q I ⟨β, S, ρ, rl, en, q⟩ => ?_⟩⟩
  have s1 : tM X.K X.mg W mo σ H fun x H1 => ∃ a, x = .ref a ∧ IsD H1 a ∧ tM X.K X.mg W me σ H1 fun y H2 => tM X.K X.mg W mf σ H2 fun z H3 => ∃ β3 S3 n y' z', Rl X.K X.mg β3 H3 S3 ∧ β3[n]? = some a ∧ Vd X.K X.mg β3 H3 y y' ∧ Vd X.K X.mg β3 H3 z z' ∧ Po X.K X.mg W σ β3 H3 (setdD n y' z' S3) fun x β' _ H' => ∀ v, Vd X.K X.mg β' H' v x → Q v H' := by
    refine ⟨β, S, ρ, rl, en, (Po.bind q).mono fun d β1 S1 H1 x1 r1 q1 v hv => ?_⟩
    cases e1 : dictAt d S1 with
    | none => rw [e1] at q1; exact q1.elim
    | some n =>
      rw [e1] at q1
      obtain ⟨a, rfl, h1, h2⟩ := dictAt_ok r1 hv e1
      exact ⟨a, rfl, h2, β1, S1, ρ, r1, en.ext x1, (Po.bind q1).mono fun y' β2 S2 H2 x2 r2 q2 y hy => ⟨β2, S2, ρ, r2, en.ext (x1.trans x2), (Po.bind q2).mono fun z' β3 S3 H3 x3 r3 q3 z hz => ⟨β3, S3, n, y', z', r3, x3.at' (x2.at' h1), hy.ext x3, hz, q3⟩⟩⟩
  refine wpAny_Call_method m.base m.few m.line PySem.F.plainAttrs_dict PySem.F.slot_dict_setdefault PySem.F.type_dict_setdefault (thn (ho.pe.run pins s σ H _ I s1) fun u s1 ⟨x, H1, I1, rx, a, ex, dd, q1⟩ => ?_)
  subst ex
  obtain rfl : u = Value.ref a := rx
  obtain ⟨t1, t2, _⟩ := isD_at I1 dd
  refine ⟨t1, t2, ?_⟩
  rw [m.trees]
  exact Calls.callWith_builtin rfl (Calls.evalArgs_plain (Calls.spliced_cons (thn (he.pe.run pins s1 σ H1 _ I1 q1) fun iv s2 ⟨y, H2, I2, ry, q2⟩ =>
    Calls.spliced_cons (thn (hf.pe.run pins s2 σ H2 _ I2 q2) fun fv s3 ⟨z, H3, I3, rz, β3, S3, n, y', z', r3, g1, g2, g3, q3⟩ => Calls.spliced_nil (setdD_run hu I3 r3 g1 g2 g3 ry rz q3)))))
end
/-! rows for simp -/
section
variable {ρ : Env'} {S S' : Sto} {mo mk mv : Mx} {ma : Ma} {n i gi : Nat} {d : D} {ds es : List D} {tab : VTab} {U : NW} {js ns : List Nat} {mc : Mb} {a : Ms}
@[simp] theorem ev_setd : mSetd mo mk mv ρ S = (mo ρ S).bind fun o S1 => match dictAt o S1 with
  | some n => (mk ρ S1).bind fun y S2 => (mv ρ S2).bind fun z S3 => setdD n y z S3
  | none => .stuck := rfl
@[simp] theorem ev_callv : mCallV tab mo ma ρ S = (mo ρ S).bind fun o S1 => if isFn o S1 = true then (ma ρ S1).bind fun ds S2 => callV tab o ds S2 else .stuck := rfl
theorem isFn_ref (h : S[n]? = some (.fn i U ns)) : isFn (.ref n) S = true := by
  unfold isFn
  dsimp only
  rw [h]
theorem callV_ref {m : List D → Sto → R D} (h : S[n]? = some (.fn i U ns)) (h2 : tab[i]? = some (U, m)) : callV tab (.ref n) ds S = runV m ns ds S := by
  unfold callV
  dsimp only
  rw [h]
  dsimp only
  rw [h2]
  dsimp only
  rw [if_pos rfl]
theorem runV_ok {m : List D → Sto → R D} (h : celsD S ns = some es) (h2 : m (ds ++ es) (openD S ns) = .ok d S') : runV m ns ds S = .ok d (closeC S S' ns) := by
  unfold runV
  rw [h]
  dsimp only
  rw [h2]
theorem runV_ex {m : List D → Sto → R D} {x : Exn} (h : celsD S ns = some es) (h2 : m (ds ++ es) (openD S ns) = .ex x S') : runV m ns ds S = .ex x (closeC S S' ns) := by
  unfold runV
  rw [h]
  dsimp only
  rw [h2]
@[simp] theorem celsD_nil : celsD S [] = some [] := rfl
@[simp] theorem celsD_cons {r : List Nat} : celsD S (n :: r) = match S[n]?, celsD S r with
    | some (.cel d), some ds => some (d :: ds)
    | _, _ => none := rfl
@[simp] theorem openD_nil : openD S [] = S := rfl
@[simp] theorem openD_cons {r : List Nat} : openD S (n :: r) = openD (S.set n .opn) r := rfl
@[simp] theorem closeC_nil : closeC S S' [] = S' := rfl
@[simp] theorem closeC_cons {r : List Nat} : closeC S S' (n :: r) = closeC S (match S[n]? with
    | some o => S'.set n o
    | none => S') r := rfl
@[simp] theorem slotsD_nil : slotsD ρ [] = some [] := rfl
@[simp] theorem slotsD_cons {r : List Nat} : slotsD ρ (n :: r) = match ρ[n]?, slotsD ρ r with
    | some (some d), some ds => some (d :: ds)
    | _, _ => none := rfl
@[simp] theorem ev_retfn : retFn i U js ρ S = match slotsD ρ js with
  | some es => .fl (.rt (.ref (S.length + es.length))) (S ++ es.map Ob.cel ++ [.fn i U (List.range' S.length es.length)])
  | none => .stuck := rfl
@[simp] theorem ev_defret : sDefRet gi i U js ρ S = retFn i U js (ρ.set gi none) S := rfl
theorem ev_defif {k : Bool} (h : mc (ρ.set gi none) S = .ok k S) : sDefIf gi i U js mc a ρ S = if k = true then (match a (ρ.set gi none) S with
  | .fl (.nx _) _ => .stuck
  | r => r) else retFn i U js (ρ.set gi none) S := by
  unfold sDefIf
  rw [h]
  exact if_pos rfl
end
end Eng

/-! The engine, part 27: looks at the texts of makers, the trees' parts. -/
namespace Eng
open PySem PySem.Spec PyProof.Rows L2
variable [TabCfg]
def mkrB (N : List Str) (sc : Scope) (U : NW) (js : List Nat) : Bool :=
  decide U.fr.Nodup && decide (js.map (fun j => N[j]?) = U.fr.map some) && U.fr.all (fun y => decide (sc.names.lookup y = some .cell)) && U.fr.all (fun y => decide ((y, NameKind.free) ∈ U.scope.names)) && U.scope.names.all fun y => !decide (y.2 = .free) || decide (y.1 ∈ U.fr)
theorem mkr_by {X : Cx} {U : NW} {js : List Nat} (h : mkrB X.N X.env.scope U js = true) (hf : ∀ y, X.fn y = true) : Mkr X U js := by
  unfold mkrB at h
  simp only [Bool.and_eq_true, Bool.or_eq_true, Bool.not_eq_true', decide_eq_true_eq, decide_eq_false_iff_not, List.all_eq_true] at h
  obtain ⟨⟨⟨⟨h1, h2⟩, h3⟩, h4⟩, h5⟩ := h
  exact ⟨h1, h2, h3, fun y _ => hf y, h4, fun y hy e => (h5 y hy).elim (fun z => absurd e z) id⟩
/-- a maker's text, with the place of its code object -/
def MakerAt (K : PySem.W.Frag) (x qual : Str) (st : Stmt) (f c : Addr) (fd : FuncData) : Prop := ∃ (oc kV doc pm ct : Value) (od an : Option Addr) (osl : Array (Option Value)),
  fd = PySem.W.fnOf x qual (defArgs st) (defBody st) (defScope st) .none kV doc pm an (.ref c) ct ∧ K.lookup f = some ⟨oc, od, .func fd, osl⟩ ∧ PySem.W.codeIn K (.ref c) qual = true
theorem maker_ok2 {P : Program} {w : World} {K : PySem.W.Frag} {mg : Str → Option Value} {base : Heap} {x qual : Str} {st : Stmt} {f c : Addr} {fd : FuncData} {N ps : List Str} {k : Nat} {b : Ms} (L : MakerAt K x qual st f c fd) (S : FnScope N ps (defScope st))
    (h : ∀ (A : Around) (outer : List Env) (s : Shared) (H : Hp) (E : XK), Room k (A.deeper (envOfC qual (defScope st) s.heap.objs.size f (.ref c))) →
      FSs (cxOf (L2.CX P w) P w K mg base N qual (defScope st) f (.ref c) A outer s H E) (fun cls d _ H => E cls d H) (defBody st) b) : FnOk P w K mg base (L2.CX P w) (k + 1) f fd ps (spM K mg ps.length (mDef N.length b)) := by
  obtain ⟨oc, kV, doc, pm, ct, od, an, osl, rfl, lk, hcd⟩ := L
  exact maker_ok lk hcd S h
theorem tabx {X : Cx} {nm : Nat → Nat → Str} {c P : Addr} (t : LamX.TabB X.base X.mg c P) (h : X.env.code = .ref c) (b : (P, nm) ∈ TabCfg.tabs ∧ ∀ p ∈ TabCfg.tabs, p.1 = P → p.2 = nm) : TabX X nm := ⟨c, P, t, h, b.1, b.2⟩
/-! the parts of the trees -/
def noneS : Stmt := .Pass ⟨0, 0, 0, 0⟩
def ifS (s : Stmt) (j : Nat) : Stmt := match s with
  | .If _ b _ _ => b.getD j noneS
  | s => s
def lamA (s : Stmt) : Arguments := match s with
  | .Return (some (.Lambda p _ _ _)) _ => p
  | _ => defArgs noneS
def lamB (s : Stmt) : Expr := match s with
  | .Return (some (.Lambda _ b _ _)) _ => b
  | _ => .Constant .none 0 ⟨0, 0, 0, 0⟩
def lamS (s : Stmt) : Scope := match s with
  | .Return (some (.Lambda _ _ sc _)) _ => sc
  | _ => defScope noneS
def posS (s : Stmt) : Nat × Nat := match s with
  | .Return (some (.Lambda _ _ _ p)) _ => (p.line, p.col)
  | .FunctionDef _ _ _ _ _ _ _ _ _ p => (p.line, p.col)
  | _ => (0, 0)
/-- a table that tells one name; one that tells another one at a place -/
def nm1 (q : Str) : Nat → Nat → Str := fun _ _ => q
def nm2 (s : Stmt) (q r : Str) : Nat → Nat → Str := fun l c => if (l, c) = posS s then q else r
theorem own_at {K : PySem.W.Frag} {h : Heap} {f c P : Addr} {o : Obj} {fd : FuncData} {e : Value} {dd : Option Addr} {vs : Array Value} {sl : Array (Option Value)} (t : LamX.OwnTab K f h) (k1 : K.lookup f = some o) (k2 : o.data = .func fd) (k3 : fd.code = .ref c) (k4 : K.lookup c = some ⟨e, dd, .fields vs, sl⟩) (k5 : vs[11]? = some (.ref P)) :
    h.get? P = some { cls := .none, data := .fields #[] } := t c P o fd e dd vs sl k1 k2 k3 k4 k5
end Eng

set_option maxHeartbeats 2000000
/-! The engine, part 28: tuples and texts times whole numbers. -/
namespace Eng
open PySem PySem.Spec PyProof.Rows L2
theorem tuple_mul1 (l : Addr) (items : Array Value) (n : Nat) (dd : Option Addr) (sl : Array (Option Value)) (u : Tok) :
    Meets (Builtin.«tuple.__mul__» ⟨[.ref l, .int 1 u], []⟩) (fun _ R s => s.heap.get? l = some { cls := .type "tuple", dict := dd, data := .seq items n, slots := sl } ∧ R (.ok (.ret (Value.ref l))) s) :=
  .of_wp fun prog w A R s h => by
    obtain ⟨hp, g, d, tk, os⟩ := s
    obtain ⟨hl, h⟩ := h
    have f1 := AutoSeq1.idx_int
    wp_walk using wpAny_loadPart' hl
    all_goals exact ⟨_, rfl, h⟩
theorem unitsOf {k : Nat} {A : Around} (hr : Room k A) : A.units + 1 < cLine := by
  have := hr.units
  omega
noncomputable def fMulA : F2
  | .int i, .int j, S => if cMul1 i j = true then some (.int (i * j), S) else none
  | .tup xs, .int j, S => if xs ≠ [] ∧ 1 ≤ j ∧ j ≤ 1000 ∧ xs.length ≤ 1000 then some (.tup (List.replicate j.toNat xs).flatten, S) else none
  | .str z, .int j, S => if 0 ≤ j ∧ j ≤ 100000 ∧ z.length ≤ 100 then some (.str (Txt.mul z j), S) else none
  | _, _, _ => none
section
variable {X : Cx}
def rRep1 (K : PySem.W.Frag) : R2 := fun x y H Q => ∃ l xs, x = .ref l ∧ y = .int 1 ∧ SqT K H l xs ∧ Q (.ref l) H
theorem op_rep1 : OpR X (binaryOp .Mult) (rRep1 X.K) := by
  intro pins s σ H x y v u Q I rx ry h
  obtain ⟨l, xs, rfl, rfl, hT, q⟩ := h
  cases rx
  obtain ⟨t, rfl⟩ := ry
  obtain ⟨its, r, ⟨⟨cls, dd, data, sl⟩, ho, hc, n, hd⟩, hs⟩ := I.tuple hT
  simp only at hc hd
  subst hc hd
  refine wpAny_binaryOp_repeat_ref (T := "tuple") (U := "int") (by decide) ⟨_, ho, rfl⟩ (fun s' => typeIs_int s' 1 t) noFill_tuple_mul F.fills_int_mul F.slot_int_rmul repeat_tuple F.slot_int_index.lookup
    (call_meets F.slot_int_rmul (typeIs_int s 1 t) F.entry_int_rmul (F.args_int_rmul_2 _ _) (int_rmul_tuple 1 t l its.toArray n dd sl)
      ⟨ho, rfl, ⟨_, ho, rfl⟩, call_meets F.slot_tuple_mul ⟨_, ho, rfl⟩ F.entry_tuple_mul (F.args_tuple_mul_2 _ _) (tuple_mul1 l its.toArray n dd sl t) ⟨ho, ?_⟩⟩)
  exact ⟨.ref l, _, I, rfl, q⟩
def rMulS : R2 := fun x y H Q => ∃ z j, x = .str z ∧ y = .int j ∧ MulOk z j ∧ Q (.str (Txt.mul z j)) H
theorem op_mulS : OpR X (binaryOp .Mult) rMulS := by
  intro pins s σ H x y v u Q I rx ry h
  obtain ⟨z, j, rfl, rfl, ok, q⟩ := h
  obtain ⟨t, rfl⟩ := rx
  obtain ⟨t', rfl⟩ := ry
  exact SB.mul ok fun t2 k => ⟨.str (Txt.mul z j), H, I.tok _, ⟨_, rfl⟩, q⟩
def rMulA (X : Cx) : R2 := fun x y H Q => (rI CMul' (fun i j => .int (i * j)) x y H Q ∨ rMulS x y H Q) ∨ (rRep1 X.K x y H Q ∨ rRepT X.K x y H Q)
theorem op_mulA : OpR X (binaryOp .Mult) (rMulA X) := OpR.or (OpR.or op_mul' op_mulS) (OpR.or op_rep1 op_repT)
theorem Vds.reps {K : PySem.W.Frag} {mg : Str → Option Value} {β : List Addr} {H : Hp} {vs : List V} {ds : List D} [TabCfg] (h : Vds K mg β H vs ds) : ∀ n : Nat, Vds K mg β H (List.replicate n vs).flatten (List.replicate n ds).flatten
  | 0 => .nil
  | n + 1 => by
    rw [List.replicate_succ, List.replicate_succ, List.flatten_cons, List.flatten_cons]
    exact h.append (Vds.reps h n)
variable [TabCfg]
theorem op2_mulA : Op2 X (rMulA X) fMulA := by
  intro β H S x y v u d S' Q r hx hy e k
  cases x <;> cases y <;> first | (cases e; done) | skip
  · rename_i i j
    cases hx; cases hy
    unfold fMulA at e
    dsimp only at e
    split at e
    · rename_i h
      cases e
      exact .inl (.inl ⟨i, j, rfl, rfl, cMul1_ok h, k β H _ .refl r (.int _)⟩)
    · cases e
  · rename_i z j
    cases hx; cases hy
    unfold fMulA at e
    dsimp only at e
    split at e
    · rename_i h
      cases e
      obtain ⟨h1, h2, h3⟩ := h
      refine .inl (.inr ⟨z, j, rfl, rfl, mulOk_of 100 100000 h3 (by omega) (by omega) (by decide) (by decide), k β H _ .refl r (.str _)⟩)
    · cases e
  · rename_i xs j
    obtain ⟨p, vs, rfl, h1, h2⟩ := hx.tup_at
    cases hy
    unfold fMulA at e
    dsimp only at e
    split at e
    · rename_i h
      cases e
      obtain ⟨g1, g2, g3, g4⟩ := h
      by_cases hj : j = 1
      · subst hj
        refine .inr (.inl ⟨p, vs, rfl, rfl, .of h1, k β H _ .refl r ?_⟩)
        have : (List.replicate (1 : Int).toNat xs).flatten = xs := by simp
        rw [this]
        exact .tup h1 h2
      · refine .inr (.inr ⟨p, j, vs, rfl, rfl, .of h1, fun z => g1 ?_, by omega, g3, by rw [h2.length]; exact g4, fun p' hp' => ?_⟩)
        · subst z
          cases h2
          rfl
        · exact k β _ _ (xt_new' hp') (r.tup hp') (.tup upd_same ((Vds.reps h2 j.toNat).ext (xt_new' hp')))
    · cases e
variable {W : WX} {a b : Expr} {ma mb : Mx} {pos : Pos}
theorem me_mulA (ha : ME X W a ma) (hb : ME X W b mb) : ME X W (.BinOp a .Mult b pos) (mBin fMulA ma mb) := me_bin op_mulA op2_mulA ha hb
end
section
variable {S : Sto} {i j : Int}
@[simp] theorem fMulA_int : fMulA (.int i) (.int j) S = if cMul1 i j = true then some (.int (i * j), S) else none := rfl
@[simp] theorem fMulA_tup {xs : List D} : fMulA (.tup xs) (.int j) S = if xs ≠ [] ∧ 1 ≤ j ∧ j ≤ 1000 ∧ xs.length ≤ 1000 then some (.tup (List.replicate j.toNat xs).flatten, S) else none := rfl
@[simp] theorem fMulA_str {z : Str} : fMulA (.str z) (.int j) S = if 0 ≤ j ∧ j ≤ 100000 ∧ z.length ≤ 100 then some (.str (Txt.mul z j), S) else none := rfl
end
end Eng

set_option maxHeartbeats 2000000
/-! The engine, part 29: texts that are split; d.update(e). -/
namespace Eng
open PySem PySem.Spec PyProof.Rows L2
variable [TabCfg]
/-! ### texts split -/
def ckS : D → Sto → Bool := fun o _ => match o with
  | .str _ => true
  | _ => false
section
variable {X : Cx} {W : WX} {pos apos : Pos} {o e f : Expr} {mo me mf : Mx}
theorem ckS_ok {β : List Addr} {H : Hp} {S : Sto} {o : D} {v : V} (r : Rl X.K X.mg β H S) (h : Vd X.K X.mg β H v o) (e : ckS o S = true) : tyV X.K "str" v H := by
  cases o with
  | str z => cases h; rfl
  | _ => cases e
def newStrs (ys : List Str) (S : Sto) : Option (D × Sto) := if ys.length ≤ 16777216 then some (.ref S.length, S ++ [.lst (ys.map D.str)]) else none
theorem strs_new {β : List Addr} {H : Hp} {S S' : Sto} {ys : List Str} {d : D} {Q : VK} (rl : Rl X.K X.mg β H S) (e : newStrs ys S = some (d, S')) (k : ∀ β' H' w, Xt X.K β H β' H' → Rl X.K X.mg β' H' S' → Vd X.K X.mg β' H' w d → Q w H') : rNewStrs ys H Q := by
  unfold newStrs at e
  split at e
  · cases e
    intro p hp
    have hv : ∀ β1 H1, Vds X.K X.mg β1 H1 (ys.map V.str) (ys.map D.str) := by
      intro β1 H1
      clear k
      induction ys with
      | nil => exact .nil
      | cons y r ih => exact .cons (.str y) (ih (by simp at *; omega))
    have x : Xt X.K β H (β ++ [p]) (upd H p (.lst (ys.map V.str))) := xt_new hp
    have r' := rl.new (o := .lst (ys.map V.str)) (b := .lst (ys.map D.str)) hp ⟨_, upd_same, hv _ _⟩
    refine k _ _ _ x r' (.ref ?_)
    rw [← rl.len, List.getElem?_append_right (Nat.le_refl _), Nat.sub_self]
    rfl
  · cases e
def fSplit : FM
  | .str a, [.str b], S => if b.length ≠ 0 ∧ a.length + 2 ≤ 16777216 then newStrs (Txt.split a b) S else none
  | .str a, [.str b, .int k], S => if b.length ≠ 0 ∧ a.length + 2 ≤ 16777216 ∧ 0 ≤ k ∧ k ≤ 1000000 then newStrs (Txt.splitMax a b k) S else none
  | _, _, _ => none
theorem len0 {b : Str} (h : b.length ≠ 0) : (b.length == 0) = false := by simpa using h
abbrev rSpl1 : V → List V → Hp → VK → Prop := fun x xs H Q => ∃ a b, x = .str a ∧ xs = [.str b] ∧ (b.length == 0) = false ∧ a.length + 2 ≤ sizeLine ∧ rNewStrs (Txt.split a b) H Q
abbrev rSpl2 : V → List V → Hp → VK → Prop := fun x xs H Q => ∃ (a b : Str) (k : Int), x = .str a ∧ xs = [.str b, .int k] ∧ (b.length == 0) = false ∧ -(2 ^ 63) ≤ k ∧ k < 2 ^ 63 ∧ a.length + 2 ≤ sizeLine ∧ rNewStrs (Txt.splitMax a b k) H Q
theorem mt_spl : MtR X "str.split" (fun x xs H Q => rSpl1 x xs H Q ∨ rSpl2 x xs H Q) := by
  intro pins s σ H x xs v us Q I rx rs h
  rcases h with h | h
  · exact mt_split pins s σ H x xs v us Q I rx rs h
  · exact mt_splitMax pins s σ H x xs v us Q I rx rs h
theorem o_split : OpM X "str" ckS (fun x xs H Q => rSpl1 x xs H Q ∨ rSpl2 x xs H Q) fSplit := by
  refine ⟨fun β H S o v r h e => ckS_ok r h e, fun β H S o v xs vs d S' Q r hv hx e k => ?_⟩
  unfold fSplit at e
  split at e
  · rename_i a b
    cases hv
    obtain ⟨u, rfl, hu⟩ := hx.one
    cases hu
    split at e
    · rename_i hc
      exact .inl ⟨a, b, rfl, rfl, len0 hc.1, by rw [sizeLine_eq]; exact hc.2, strs_new r e k⟩
    · cases e
  · rename_i a b n
    cases hv
    obtain ⟨u, w, rfl, hu, hw⟩ := hx.two
    cases hu
    cases hw
    split at e
    · rename_i hc
      exact .inr ⟨a, b, n, rfl, rfl, len0 hc.1, by omega, by omega, by rw [sizeLine_eq]; exact hc.2.1, strs_new r e k⟩
    · cases e
  · cases e
theorem me_split1 (ho : ME X W o mo) (ha : ME X W e me) (hbase : attributeBase o "split" X.env (eval o X.env) = eval o X.env := by rfl)
    (hfew : ((backTo pos (starEach [e] X.env)).all (fun x => !x.1) && (backToKw pos (keywordEach [] X.env)).all (fun x => x.1.isSome) && decide ([e].length + ([] : List Keyword).length + (if ([] : List Keyword).isEmpty then 0 else 1) < 30)) = true := by rfl)
    (hline : (apos.endLine == pos.line) = true := by rfl) (hs : starEach [e] X.env = [(false, eval e X.env)] := by rfl) : ME X W (.Call (.Attribute o "split" apos) [e] [] pos) (mBM ckS fSplit mo (mCons me mNil)) :=
  me_bm PySem.F.plainAttrs_str PySem.F.slot_str_split PySem.F.type_str_split mt_spl o_split ho (ma_cons ha ma_nil hs) hbase hfew hline hs rfl
theorem me_split2 (ho : ME X W o mo) (ha : ME X W e me) (hf : ME X W f mf) (hbase : attributeBase o "split" X.env (eval o X.env) = eval o X.env := by rfl)
    (hfew : ((backTo pos (starEach [e, f] X.env)).all (fun x => !x.1) && (backToKw pos (keywordEach [] X.env)).all (fun x => x.1.isSome) && decide ([e, f].length + ([] : List Keyword).length + (if ([] : List Keyword).isEmpty then 0 else 1) < 30)) = true := by rfl)
    (hline : (apos.endLine == pos.line) = true := by rfl) (hs : starEach [e, f] X.env = (false, eval e X.env) :: starEach [f] X.env := by rfl) (hs2 : starEach [f] X.env = [(false, eval f X.env)] := by rfl) (hpl : (backTo pos (starEach [f] X.env)).any (·.1) = false := by rfl) : ME X W (.Call (.Attribute o "split" apos) [e, f] [] pos) (mBM ckS fSplit mo (mCons me (mCons mf mNil))) :=
  me_bm PySem.F.plainAttrs_str PySem.F.slot_str_split PySem.F.type_str_split mt_spl o_split ho (ma_cons ha (ma_cons hf ma_nil hs2) hs) hbase hfew hline hs hpl
def fPart : FM
  | .str a, [.str b], S => if b.length ≠ 0 ∧ a.length ≤ 16777216 then some (.tup [.str (Txt.partition a b).1, .str (Txt.partition a b).2.1, .str (Txt.partition a b).2.2], S) else none
  | _, _, _ => none
theorem o_part : OpM X "str" ckS (fun x xs H Q => ∃ a b, x = .str a ∧ xs = [.str b] ∧ (b.length == 0) = false ∧ a.length ≤ sizeLine ∧
      ∀ p, H p = none → Q (.ref p) (upd H p (.tup [.str (Txt.partition a b).1, .str (Txt.partition a b).2.1, .str (Txt.partition a b).2.2]))) fPart := by
  refine ⟨fun β H S o v r h e => ckS_ok r h e, fun β H S o v xs vs d S' Q r hv hx e k => ?_⟩
  unfold fPart at e
  split at e
  · rename_i a b
    cases hv
    obtain ⟨u, rfl, hu⟩ := hx.one
    cases hu
    split at e
    · rename_i hc
      cases e
      exact ⟨a, b, rfl, rfl, len0 hc.1, by rw [sizeLine_eq]; exact hc.2, fun p hp => k β _ _ (xt_new' hp) (r.tup hp) (.tup upd_same (.cons (.str _) (.cons (.str _) (.cons (.str _) .nil))))⟩
    · cases e
  · cases e
theorem me_part (ho : ME X W o mo) (ha : ME X W e me) (hbase : attributeBase o "partition" X.env (eval o X.env) = eval o X.env := by rfl)
    (hfew : ((backTo pos (starEach [e] X.env)).all (fun x => !x.1) && (backToKw pos (keywordEach [] X.env)).all (fun x => x.1.isSome) && decide ([e].length + ([] : List Keyword).length + (if ([] : List Keyword).isEmpty then 0 else 1) < 30)) = true := by rfl)
    (hline : (apos.endLine == pos.line) = true := by rfl) (hs : starEach [e] X.env = [(false, eval e X.env)] := by rfl) : ME X W (.Call (.Attribute o "partition" apos) [e] [] pos) (mBM ckS fPart mo (mCons me mNil)) :=
  me_bm PySem.F.plainAttrs_str PySem.F.slot_str_partition PySem.F.type_str_partition mt_partition o_part ho (ma_cons ha ma_nil hs) hbase hfew hline hs rfl
end
/-! ### d.update(e) -/
def mergedD (kvs more : List (Key × D)) : List (Key × D) := more.foldl (fun acc kv => putD acc kv.1 kv.2) kvs
def mergedK (kvs more : List (Key × V)) : List (Key × V) := more.foldl (fun acc kv => putK acc kv.1 kv.2) kvs
theorem kv_merged : ∀ {more : List (Key × V)} {mv : List (Key × Value)} {kvs : List (Key × V)} {vs : List (Key × Value)}, KV kvs vs → KV more mv → KV (mergedK kvs more) (merged vs mv)
  | [], _, _, _, r, m => by cases m; exact r
  | (k, x) :: more, mv, kvs, vs, r, m => by
    cases m with
    | cons h t =>
      obtain ⟨h1, h2⟩ := h
      rename_i y ys
      obtain ⟨k', u⟩ := y
      cases h1
      show KV (mergedK (putK kvs k x) more) (merged (stored vs k u) ys)
      exact kv_merged (r.put k h2) t
theorem pd_merged {K : PySem.W.Frag} {mg : Str → Option Value} {β : List Addr} {H : Hp} : ∀ {more : List (Key × V)} {md : List (Key × D)} {kvs : List (Key × V)} {ds : List (Key × D)}, Pd K mg β H kvs ds → Pd K mg β H more md → Pd K mg β H (mergedK kvs more) (mergedD ds md)
  | [], _, _, _, r, m => by cases m; exact r
  | (k, x) :: more, mv, kvs, vs, r, m => by
    cases m with
    | cons h t =>
      obtain ⟨h1, h2⟩ := h
      rename_i y ys
      obtain ⟨k', u⟩ := y
      cases h1
      show Pd K mg β H (mergedK (putK kvs k x) more) (mergedD (putD vs k u) ys)
      exact pd_merged (r.put k h2) t
theorem mergedK_le : ∀ (more kvs : List (Key × V)), (mergedK kvs more).length ≤ kvs.length + more.length
  | [], kvs => Nat.le_refl _
  | (k, x) :: more, kvs => by
    have h1 := mergedK_le more (putK kvs k x)
    have h2 := length_putK kvs k x
    show (mergedK (putK kvs k x) more).length ≤ _
    rw [List.length_cons]
    omega
section
variable {X : Cx} {pins : List (Addr × Obj)} {σ : L2.St} {H : Hp} {s : Shared} {a b : Addr} {A : Around} {E : Value → Shared → Prop}
theorem d_upd {kvs more : List (Key × V)} {Q : Value → Shared → Prop} (I : Inv X pins σ H s) (e : H a = some (.dK kvs)) (eb : H b = some (.dK more)) (hab : a ≠ b) (hl : kvs.length + more.length ≤ sizeLine)
    (h : ∀ s', Inv X pins σ (upd H a (.dK (mergedK kvs more))) s' → Q .none s') : wpAny (model X.prog X.w) A (call (.builtin "dict.update") [.ref a, .ref b]) Q E s := by
  obtain ⟨z, hd, vs, rel, dd⟩ := dk_of I.hok e
  obtain ⟨z2, hd2, ws, rel2, dd2⟩ := dk_of I.hok eb
  refine call_meetsIn PySem.F.slot_dict_update dd.typeIs PySem.F.entry_dict_update (PySem.F.args_dict_update_2 _ _) (meets_dict_update (mixKind X.prog X.w) a b hab hd2) ⟨vs, ws, dd, dd2, by rw [← rel.length, ← rel2.length]; exact hl, fun h' d1 d2 hs => ?_⟩
  have he : ∃ q, h'.get? a = some q := let ⟨q, _, _, hq, _⟩ := d1; ⟨q, hq⟩
  exact h _ (d_write I (by rw [e]; exact True.intro) hs he (dk_new (Nat.le_trans (mergedK_le more kvs) hl) hd (kv_merged rel rel2) d1))
end
def updD (n m : Nat) (S : Sto) : R D := match S[n]?, S[m]? with
  | some (.dk kvs), some (.dk more) => if n ≠ m ∧ kvs.length + more.length ≤ 16777216 then .ok .non (S.set n (.dk (mergedD kvs more))) else .stuck
  | _, _ => .stuck
def mUpd (mo mk : Mx) : Mx := fun ρ S => (mo ρ S).bind fun o S1 => match dictAt o S1 with
  | some n => (mk ρ S1).bind fun y S2 => match y with
    | .ref m => updD n m S2
    | _ => .stuck
  | none => .stuck
section
variable {X : Cx} {W : WX} {pos apos : Pos} {o e : Expr} {mo me : Mx}
theorem me_upd (ho : ME X W o mo) (he : ME X W e me) (m : M1 X o "update" apos e pos := by exact ⟨rfl, rfl, rfl, rfl⟩) : ME X W (.Call (.Attribute o "update" apos) [e] [] pos) (mUpd mo me) := by
  refine ⟨⟨fun pins s σ H Q I ⟨β, S, ρ, rl, en, q⟩ => ?_⟩⟩
  have s1 : tM X.K X.mg W mo σ H fun x H1 => ∃ a, x = .ref a ∧ IsD H1 a ∧ tM X.K X.mg W me σ H1 fun y H2 => ∃ β2 S2 n k, Rl X.K X.mg β2 H2 S2 ∧ β2[n]? = some a ∧ Vd X.K X.mg β2 H2 y (.ref k) ∧ Po X.K X.mg W σ β2 H2 (updD n k S2) fun x β' _ H' => ∀ v, Vd X.K X.mg β' H' v x → Q v H' := by
    refine ⟨β, S, ρ, rl, en, (Po.bind q).mono fun d β1 S1 H1 x1 r1 q1 v hv => ?_⟩
    cases e1 : dictAt d S1 with
    | none => rw [e1] at q1; exact q1.elim
    | some n =>
      rw [e1] at q1
      obtain ⟨a, rfl, h1, h2⟩ := dictAt_ok r1 hv e1
      refine ⟨a, rfl, h2, β1, S1, ρ, r1, en.ext x1, (Po.bind q1).mono fun y' β2 S2 H2 x2 r2 q2 y hy => ?_⟩
      cases y' with
      | ref k => exact ⟨β2, S2, n, k, r2, x2.at' h1, hy, q2⟩
      | _ => exact q2.elim
  refine wpAny_Call_method m.base m.few m.line PySem.F.plainAttrs_dict PySem.F.slot_dict_update PySem.F.type_dict_update (thn (ho.pe.run pins s σ H _ I s1) fun u s1 ⟨x, H1, I1, rx, a, ex, dd, q1⟩ => ?_)
  subst ex
  obtain rfl : u = Value.ref a := rx
  obtain ⟨t1, t2, _⟩ := isD_at I1 dd
  refine ⟨t1, t2, ?_⟩
  rw [m.trees]
  refine Calls.callWith_builtin rfl (Calls.evalArgs_plain (Calls.spliced_cons (thn (he.pe.run pins s1 σ H1 _ I1 q1) fun iv s2 ⟨y, H2, I2, ry, β2, S2, n, k, r2, g1, hy, q2⟩ => Calls.spliced_nil ?_)))
  obtain ⟨b, rfl, hb⟩ := hy.ref_inv
  obtain rfl : iv = Value.ref b := ry
  unfold updD at q2
  split at q2
  · rename_i kvs more e1 e2
    split at q2
    · rename_i hc
      obtain ⟨xs, w1, w2⟩ := r2.at' n a _ g1 e1
      obtain ⟨ys, w3, w4⟩ := r2.at' k b _ hb e2
      have hab : a ≠ b := fun z => hc.1 (r2.uniq n k a _ _ g1 (by rw [z]; exact hb) e1 e2 rfl rfl)
      refine d_upd I2 w1 w3 hab (by rw [w2.length, w4.length, sizeLine_eq]; exact hc.2) fun s' J => ?_
      obtain ⟨r', x'⟩ := r2.write (o := .dK (mergedK xs ys)) (b' := .dk (mergedD kvs more)) g1 e1 rfl rfl fun x => ⟨_, upd_same, (pd_merged w2 w4).ext x⟩
      exact ⟨.non, _, J, rfl, q2 β2 _ x' r' .non .non⟩
    · exact q2.elim
  · exact q2.elim
end
section
variable {ρ : Env'} {S : Sto} {mo mk : Mx} {a b : Str} {k : Int} {n m : Nat} {ys : List Str}
@[simp] theorem ckS_str : ckS (.str a) S = true := rfl
@[simp] theorem fSplit1 : fSplit (.str a) [.str b] S = if b.length ≠ 0 ∧ a.length + 2 ≤ 16777216 then newStrs (Txt.split a b) S else none := rfl
@[simp] theorem fSplit2 : fSplit (.str a) [.str b, .int k] S = if b.length ≠ 0 ∧ a.length + 2 ≤ 16777216 ∧ 0 ≤ k ∧ k ≤ 1000000 then newStrs (Txt.splitMax a b k) S else none := rfl
@[simp] theorem fPart_str : fPart (.str a) [.str b] S = if b.length ≠ 0 ∧ a.length ≤ 16777216 then some (.tup [.str (Txt.partition a b).1, .str (Txt.partition a b).2.1, .str (Txt.partition a b).2.2], S) else none := rfl
@[simp] theorem newStrs_ev : newStrs ys S = if ys.length ≤ 16777216 then some (.ref S.length, S ++ [.lst (ys.map D.str)]) else none := rfl
@[simp] theorem ev_upd : mUpd mo mk ρ S = (mo ρ S).bind fun o S1 => match dictAt o S1 with
  | some n => (mk ρ S1).bind fun y S2 => match y with
    | .ref m => updD n m S2
    | _ => .stuck
  | none => .stuck := rfl
@[simp] theorem updD_ev : updD n m S = match S[n]?, S[m]? with
  | some (.dk kvs), some (.dk more) => if n ≠ m ∧ kvs.length + more.length ≤ 16777216 then .ok .non (S.set n (.dk (mergedD kvs more))) else .stuck
  | _, _ => .stuck := rfl
end
theorem ev_call0 {m : List D → Sto → R D} {ρ : Env'} {S S' : Sto} {d : D} (h : m [] S = .ok d S') : mCall0 m ρ S = .ok d S' := by
  unfold mCall0
  rw [h]
end Eng

set_option maxHeartbeats 2000000
/-! The engine, part 30: splitting at blanks, in plain lists of signs. -/
namespace Eng
open PySem PySem.Spec PyProof.Rows L2 Builtin Builtin.Str StrLaws
def mkS (l : List Nat) : Str := ⟨l.toArray⟩
theorem mkS_cps (x : Str) : mkS x.cps.toList = x := by
  cases x
  rfl
theorem mkS_toList (l : List Nat) : (mkS l).cps.toList = l := rfl
theorem mkS_len (l : List Nat) : (mkS l).length = l.length := rfl
/-- where blanks stand, at most lim of them -/
def posT : Nat → Nat → List Nat → List Nat
  | _, _, [] => []
  | i, lim, c :: cs => if 0 < lim ∧ c = 32 then i :: posT (i + 1) (lim - 1) cs else posT (i + 1) lim cs
def splitA : List Nat → Nat → List Nat → List (List Nat)
  | acc, _, [] => [acc]
  | acc, lim, c :: cs => if 0 < lim ∧ c = 32 then acc :: splitA [] (lim - 1) cs else splitA (acc ++ [c]) lim cs
def splitF : List Nat → List Nat → List (List Nat)
  | acc, [] => [acc]
  | acc, c :: cs => if c = 32 then acc :: splitF [] cs else splitF (acc ++ [c]) cs
theorem blank_is : (" " : Str) = ⟨#[32]⟩ := by decide +kernel
theorem occ_loop (x : Str) (lim : Nat) : ∀ (cs : List Nat) (i : Nat) (st : Array Nat × Nat), x.cps.toList.drop i = cs → i ≤ x.length → st.snd ≤ i →
    (forIn (List.range' i (cs.length + 1)) st (occBody x ⟨#[32]⟩ x.length lim)).run.fst.toList = st.fst.toList ++ posT i (lim - st.fst.size) cs
  | [], i, st, h, hi, hs => by
    have hlen : i = x.length := by
      have := congrArg List.length h
      rw [List.length_drop] at this
      have e : x.cps.toList.length = x.length := by simp [Str.length]
      simp at this
      have : x.length ≤ i := by
        simp [Str.length]
        omega
      omega
    rw [List.length_nil, List.range'_succ, List.range'_zero, List.forIn_cons]
    unfold occBody
    rw [if_neg]
    · simp [posT]
    · rintro ⟨⟨_, h2⟩, _⟩
      have : (⟨#[32]⟩ : Str).length = 1 := rfl
      omega
  | c :: cs, i, st, h, hi, hs => by
    have hlt : i < x.cps.toList.length := by
      by_cases hx : i < x.cps.toList.length
      · exact hx
      · rw [List.drop_eq_nil_of_le (by omega)] at h
        cases h
    have hlt2 : i < x.length := by simpa [Str.length] using hlt
    have hd : x.cps.toList.drop (i + 1) = cs := by
      rw [← List.drop_drop, h]
      rfl
    have hc : x.cps.toList[i]? = some c := by
      have := congrArg (fun l => l[0]?) h
      simpa using this
    rw [List.length_cons, List.range'_succ, List.forIn_cons]
    have test : (i + (⟨#[32]⟩ : Str).length ≤ x.length ∧ subAt x ⟨#[32]⟩ i = true) ↔ c = 32 := by
      rw [subAt_one, hc]
      simp
    unfold posT
    by_cases hq : st.fst.size < lim ∧ c = 32
    · have e1 : (((st.fst.size < lim ∧ st.snd ≤ i) ∧ i + (⟨#[32]⟩ : Str).length ≤ x.length) ∧ subAt x ⟨#[32]⟩ i = true) := ⟨⟨⟨hq.1, hs⟩, (test.mpr hq.2).1⟩, (test.mpr hq.2).2⟩
      have e2 : 0 < lim - st.fst.size ∧ c = 32 := ⟨by omega, hq.2⟩
      have ih := occ_loop x lim cs (i + 1) (st.fst.push i, i + 1) hd (by omega) (Nat.le_refl _)
      rw [if_pos e2]
      unfold occBody at ih ⊢
      rw [if_pos e1]
      refine Eq.trans ih ?_
      rw [Array.toList_push, Array.size_push, List.append_assoc, Nat.sub_add_eq]
      rfl
    · have e1 : ¬ (((st.fst.size < lim ∧ st.snd ≤ i) ∧ i + (⟨#[32]⟩ : Str).length ≤ x.length) ∧ subAt x ⟨#[32]⟩ i = true) := fun z => hq ⟨z.1.1.1, test.mp ⟨z.1.2, z.2⟩⟩
      have e2 : ¬ (0 < lim - st.fst.size ∧ c = 32) := fun z => hq ⟨by omega, z.2⟩
      have ih := occ_loop x lim cs (i + 1) (st.fst, st.snd) hd (by omega) (Nat.le_trans hs (Nat.le_succ _))
      rw [if_neg e2]
      unfold occBody at ih ⊢
      rw [if_neg e1]
      exact ih
theorem occ_blank (x : Str) (lim : Nat) : occurrences x " " 0 x.length lim = posT 0 lim x.cps.toList := by
  rw [blank_is, occ_eq]
  have h := occ_loop x lim x.cps.toList 0 (#[], 0) rfl (Nat.zero_le _) (Nat.le_refl _)
  have e : x.length + 1 - 0 = x.cps.toList.length + 1 := by simp [Str.length]
  rw [e]
  exact h
theorem parts_loop (x : Str) : ∀ (cs : List Nat) (lim a i : Nat), x.cps.toList.drop i = cs → a ≤ i → i ≤ x.length →
    partsFrom x 1 a (posT i lim cs) = (splitA ((x.cps.toList.drop a).take (i - a)) lim cs).map mkS
  | [], lim, a, i, h, ha, hi => by
    have hlen : i = x.length := by
      have := congrArg List.length h
      rw [List.length_drop] at this
      simp [Str.length] at this ⊢
      simp [Str.length] at hi
      omega
    show [strSub x a x.length] = [mkS _]
    congr 1
    apply Str.ext'
    apply Array.toList_inj.mp
    rw [strSub_toList, mkS_toList, hlen]
  | c :: cs, lim, a, i, h, ha, hi => by
    have hlt : i < x.cps.toList.length := by
      by_cases hx : i < x.cps.toList.length
      · exact hx
      · rw [List.drop_eq_nil_of_le (by omega)] at h
        cases h
    have hlt2 : i < x.length := by simpa [Str.length] using hlt
    have hd : x.cps.toList.drop (i + 1) = cs := by
      rw [← List.drop_drop, h]
      rfl
    unfold posT splitA
    by_cases hq : 0 < lim ∧ c = 32
    · rw [if_pos hq, if_pos hq]
      show strSub x a i :: partsFrom x 1 (i + 1) (posT (i + 1) (lim - 1) cs) = _
      rw [parts_loop x cs (lim - 1) (i + 1) (i + 1) hd (Nat.le_refl _) (by omega), Nat.sub_self, List.take_zero, List.map_cons]
      congr 1
      apply Str.ext'
      apply Array.toList_inj.mp
      rw [strSub_toList, mkS_toList]
    · rw [if_neg hq, if_neg hq, parts_loop x cs lim a (i + 1) hd (by omega) (by omega)]
      congr 2
      have e : i + 1 - a = (i - a) + 1 := by omega
      have hc : (x.cps.toList.drop a)[i - a]? = some c := by
        rw [List.getElem?_drop, show a + (i - a) = i by omega]
        have := congrArg (fun l => l[0]?) h
        simpa using this
      rw [e, List.take_add_one, hc]
      rfl
theorem parts_blank (x : Str) (lim : Nat) : partsBetween x (posT 0 lim x.cps.toList) 1 = (splitA [] lim x.cps.toList).map mkS := by
  rw [partsBetween_eq, parts_loop x x.cps.toList lim 0 0 rfl (Nat.le_refl _) (Nat.zero_le _)]
  rfl
theorem one_of_empty (x : Str) (lim : Nat) (h : (posT 0 lim x.cps.toList).isEmpty = true) : [x] = (splitA [] lim x.cps.toList).map mkS := by
  rw [← parts_blank, List.isEmpty_iff.mp h]
  show [x] = [strSub x 0 x.length]
  congr 1
  apply Str.ext'
  apply Array.toList_inj.mp
  rw [strSub_toList, Nat.sub_zero, List.drop_zero]
  exact (List.take_of_length_le (by simp [Str.length])).symm
theorem kind_blank (x : Str) : (decide (x.length < (" " : Str).length) || decide (Builtin.Str.strKind x < Builtin.Str.strKind (" " : Str))) = decide (x.length < 1) := by
  have h1 : Builtin.Str.strKind (" " : Str) = 1 := by decide +kernel
  have h2 : 1 ≤ Builtin.Str.strKind x := by
    unfold Builtin.Str.strKind
    split
    · exact Nat.le_refl _
    · split <;> decide
  have h3 : (" " : Str).length = 1 := rfl
  rw [h1, h3, decide_eq_false (by omega : ¬ Builtin.Str.strKind x < 1), Bool.or_false]
theorem split_any (x : Str) (lim : Nat) : (if decide (x.length < 1) = true then [x] else if (posT 0 lim x.cps.toList).isEmpty = true then [x] else partsBetween x (posT 0 lim x.cps.toList) 1) = (splitA [] lim x.cps.toList).map mkS := by
  by_cases h0 : x.length < 1
  · rw [if_pos (decide_eq_true h0)]
    refine one_of_empty x lim ?_
    have : x.cps.toList = [] := List.eq_nil_of_length_eq_zero (by simp [Str.length] at h0 ⊢; omega)
    rw [this]
    rfl
  · rw [if_neg (by simpa using h0)]
    by_cases h1 : (posT 0 lim x.cps.toList).isEmpty = true
    · rw [if_pos h1]
      exact one_of_empty x lim h1
    · rw [if_neg h1, parts_blank]
theorem splitA_all : ∀ (cs acc : List Nat) (lim : Nat), cs.length ≤ lim → splitA acc lim cs = splitF acc cs
  | [], acc, lim, h => rfl
  | c :: cs, acc, lim, h => by
    rw [List.length_cons] at h
    unfold splitA splitF
    by_cases hc : c = 32
    · rw [if_pos ⟨by omega, hc⟩, if_pos hc, splitA_all cs [] (lim - 1) (by omega)]
    · rw [if_neg (fun z => hc z.2), if_neg hc, splitA_all cs (acc ++ [c]) lim (by omega)]
/-- x.split(" ") -/
theorem split_blank (x : Str) : Txt.split x " " = (splitF [] x.cps.toList).map mkS := by
  unfold Txt.split
  rw [kind_blank, occ_blank]
  have h1 : (" " : Str).length = 1 := rfl
  rw [h1, split_any x, splitA_all _ _ _ (by simp [Str.length])]
theorem splitMax_blank (x : Str) (k : Int) (hk : 0 ≤ k) : Txt.splitMax x " " k = (splitA [] k.toNat x.cps.toList).map mkS := by
  unfold Txt.splitMax
  have hl : limitOf x k = k.toNat := by
    unfold limitOf
    rw [if_neg (by omega)]
  rw [kind_blank, hl, occ_blank]
  have h1 : (" " : Str).length = 1 := rfl
  rw [h1, split_any x]
/-- with blanks again -/
def joinL : List (List Nat) → List Nat
  | [] => []
  | [a] => a
  | a :: b :: r => a ++ [32] ++ joinL (b :: r)
theorem splitF_ne : ∀ (cs acc : List Nat), ∃ p r, splitF acc cs = p :: r
  | [], acc => ⟨_, _, rfl⟩
  | c :: cs, acc => by
    unfold splitF
    split
    · exact ⟨_, _, rfl⟩
    · exact splitF_ne cs _
theorem joinL_splitF : ∀ (cs acc : List Nat), joinL (splitF acc cs) = acc ++ cs
  | [], acc => by simp [splitF, joinL]
  | c :: cs, acc => by
    unfold splitF
    by_cases hc : c = 32
    · rw [if_pos hc]
      have ih := joinL_splitF cs []
      obtain ⟨p, r, e⟩ := splitF_ne cs []
      rw [e] at ih ⊢
      show acc ++ [32] ++ joinL (p :: r) = _
      rw [ih, hc]
      simp
    · rw [if_neg hc, joinL_splitF cs (acc ++ [c])]
      simp
theorem splitA_few : ∀ (cs acc : List Nat) (n : Nat), n + 1 ≤ (splitF acc cs).length → splitA acc n cs = (splitF acc cs).take n ++ [joinL ((splitF acc cs).drop n)]
  | [], acc, n, h => by
    have : n = 0 := by
      have : (splitF acc []).length = 1 := rfl
      omega
    subst this
    rfl
  | c :: cs, acc, 0, h => by
    rw [List.take_zero, List.drop_zero, joinL_splitF, List.nil_append]
    have zero : ∀ (cs acc : List Nat), splitA acc 0 cs = [acc ++ cs] := by
      intro cs
      induction cs with
      | nil => intro acc; simp [splitA]
      | cons c cs ih =>
        intro acc
        unfold splitA
        rw [if_neg (fun z => absurd z.1 (by decide)), ih]
        simp
    exact zero _ _
  | c :: cs, acc, n + 1, h => by
    unfold splitF at h ⊢
    unfold splitA
    by_cases hc : c = 32
    · rw [if_pos hc] at h ⊢
      rw [if_pos ⟨Nat.succ_pos _, hc⟩, Nat.add_sub_cancel, splitA_few cs [] n (by simpa using h)]
      rfl
    · rw [if_neg hc] at h ⊢
      rw [if_neg (fun z => hc z.2)]
      exact splitA_few cs (acc ++ [c]) (n + 1) h
theorem splitA_less : ∀ (cs acc : List Nat) (n : Nat), (splitF acc cs).length ≤ n + 1 → splitA acc n cs = splitF acc cs
  | [], acc, n, h => rfl
  | c :: cs, acc, n, h => by
    unfold splitF at h ⊢
    unfold splitA
    by_cases hc : c = 32
    · rw [if_pos hc] at h ⊢
      rw [List.length_cons] at h
      have hn : 0 < n := by
        obtain ⟨p, r, e⟩ := splitF_ne cs []
        rw [e, List.length_cons] at h
        omega
      rw [if_pos ⟨hn, hc⟩, splitA_less cs [] (n - 1) (by omega)]
    · rw [if_neg hc] at h ⊢
      rw [if_neg (fun z => hc z.2)]
      exact splitA_less cs (acc ++ [c]) n h
/-- x.partition(" ")[0] -/
theorem part_blank (x : Str) : (Txt.partition x " ").1 = mkS ((splitF [] x.cps.toList).headD []) := by
  unfold Txt.partition
  rw [occ_blank]
  have key : ∀ (cs : List Nat) (i : Nat), x.cps.toList.drop i = cs → i ≤ x.length → (match posT i 1 cs with
      | j :: _ => strSub x 0 j
      | [] => x) = mkS ((splitF (x.cps.toList.take i) cs).headD []) := by
    intro cs
    induction cs with
    | nil =>
      intro i h hi
      show x = mkS (x.cps.toList.take i)
      rw [List.take_of_length_le (List.drop_eq_nil_iff.mp h), mkS_cps]
    | cons c cs ih =>
      intro i h hi
      have hlt : i < x.cps.toList.length := by
        by_cases hx : i < x.cps.toList.length
        · exact hx
        · rw [List.drop_eq_nil_of_le (by omega)] at h
          cases h
      have hd : x.cps.toList.drop (i + 1) = cs := by
        rw [← List.drop_drop, h]
        rfl
      have hc : x.cps.toList[i]? = some c := by
        have := congrArg (fun l => l[0]?) h
        simpa using this
      unfold posT splitF
      by_cases hq : c = 32
      · rw [if_pos ⟨by decide, hq⟩, if_pos hq]
        show strSub x 0 i = mkS (x.cps.toList.take i)
        apply Str.ext'
        apply Array.toList_inj.mp
        rw [strSub_toList, mkS_toList]
        simp
      · rw [if_neg (fun z => hq z.2), if_neg hq]
        have := ih (i + 1) hd (by simp [Str.length] at hlt ⊢; omega)
        rw [this, List.take_add_one, hc]
        rfl
  have := key x.cps.toList 0 rfl (Nat.zero_le _)
  rw [List.take_zero] at this
  rw [← this]
  cases posT 0 1 x.cps.toList <;> rfl
theorem join_blank (ys : List (List Nat)) : Txt.join " " (ys.map mkS) = mkS (joinL ys) := by
  show glued _ _ = _
  rw [glued_eq_join]
  induction ys with
  | nil => rfl
  | cons a r ih =>
    cases r with
    | nil => rfl
    | cons b r =>
      show mkS a ++ " " ++ Str.join " " ((b :: r).map mkS) = _
      rw [ih, blank_is]
      apply Str.ext'
      apply Array.toList_inj.mp
      show (a.toArray ++ #[32] ++ (joinL (b :: r)).toArray).toList = _
      simp [joinL]
      rfl
end Eng

set_option maxHeartbeats 2000000
/-! The engine, part 31: list comprehensions whose parts raise. -/
namespace Eng
open PySem PySem.Spec PyProof.Rows L2
section
variable {M : Model} {A : Around} {E : Value → Shared → Prop} {env : Env}
/-- behind a comprehension's loop, its variables' names at C; what is raised goes on from the frame F -/
def CPost (M : Model) (A : Around) (E : Value → Shared → Prop) (use : Option (Value → Sem Unit)) (Q : Value → Shared → Prop) (acc : Value) (C : Addr) (F : Option Addr) : Result → Shared → Prop
  | .error x, t => ∃ m, t.heap.Ns C m ∧ ∀ g, Heap.SameBut C t.heap g → ∀ ce : Env, ce.locals = C → ce.frame = F → wpAny M A (passOn "comprehension.variables-let-go" x ce : Sem Value) (fun _ _ => False) E { t with heap := g }
  | r, t => compPost M A E use Q acc C r t
theorem wpAny_compF {e : Expr} {scope : Scope} {pos : Pos} {na fi : Sem Value} {g : Comprehension} {gs : List Comprehension} {cl : List (Str × Addr)} {use : Option (Value → Sem Unit)} {Q : Value → Shared → Prop} {s : Shared}
    (c1 : clausesOf e = g :: gs) (c2 : ∀ x, foldedSetIterable g.iter env x = pure x) (c3 : closureFor scope env = pure cl) (c4 : scope.kind = .function) (c5 : ∀ x ∈ scope.names, x.2 = .local → scope.names.lookup x.1 = some .local)
    (h : wpAny M A fi (fun x t1 => wpAny M A (pyIter x) (fun it t2 => wpAny M A na (fun acc t3 => wpAny M A (newFunctionEnv scope env.globals cl [] env.qual none .none (some env)) (fun ce t4 =>
      codeAny M A (.compStart e 0 it acc { ce with scope := relabel scope env }) (CPost M A E use Q acc ce.locals ce.frame) t4) E t3) E t2) E t1) E s) : wpAny M A (comprehension e scope env pos na false fi use) Q E s := by
  have keep : ∀ {α : Type} {m : Sem α} {P P' : α → Shared → Prop} {t : Shared}, wpAny M A m P E t → (∀ v t', P v t' → P' v t') → wpAny M A m P' E t := fun w f => wpAny_mono w f fun _ _ z => z
  unfold comprehension
  rw [c3, c1]
  refine wpAny_bind (keep h fun x t1 h1 => wpAny_bind (wpAny_standAt (wpAny_bind (wpAny_of_eq (c2 x) (wpAny_bind (wpAny_holding (keep h1 fun it t2 h2 => wpAny_standIf (wpAny_bind (keep h2 fun acc t3 h3 => wpAny_bind (wpAny_pure (wpAny_bind (keep h3 fun ce t4 h4 => ?_))))))))))))
  dsimp only
  generalize hvs : (scope.names.filter fun x => (x.2 == .local || x.2 == .cell) && x.1 != (".0" : Str)) = vs
  have inN : ∀ x ∈ vs, x.2 = .local → Env.kindOf { ce with scope := relabel scope env } x.1 = some .local := fun x hx hl => lookup_relabel_local (c5 x (by rw [← hvs] at hx; exact (List.mem_filter.mp hx).1) hl)
  have inR : ∀ x ∈ vs.reverse, x.2 = .local → Env.kindOf { ce with scope := relabel scope env } x.1 = some .local := fun x hx => inN x (List.mem_reverse.mp hx)
  refine wpAny_holding (wpAny_bind (wpAny_attempt (wpAny_holding (wpAny_run (codeAny_mono h4 fun r t hr => ?_)))))
  cases r with
  | error x =>
    obtain ⟨m, hn, hq⟩ := hr
    exact wpAny_bind (wpAny_holding (wpAny_comp_letGo (cenv := { ce with scope := relabel scope env }) c4 _ t m inR hn fun g m' _ sb => wpAny_mono (hq g sb _ rfl rfl) (fun _ _ z => z.elim) fun _ _ z => z))
  | ok f =>
    cases use with
    | none =>
      obtain ⟨m, hn, hq⟩ := hr
      exact wpAny_bind (wpAny_holding (wpAny_comp_letGo (cenv := { ce with scope := relabel scope env }) c4 _ t m inR hn fun g m' _ sb => wpAny_pure (hq g sb)))
    | some u =>
      have hr' : wpAny M A (u acc) (fun _ t' => ∃ m, t'.heap.Ns ce.locals m ∧ ∀ g, Heap.SameBut ce.locals t'.heap g → Q .none { t' with heap := g }) E t := hr
      refine wpAny_bind (wpAny_rule (wpAny_bind (wpAny_holding (keep hr' fun _ t' hq => ?_))))
      obtain ⟨m, hn, hq⟩ := hq
      refine wpAny_bind (wpAny_comp_letGo (cenv := { ce with scope := relabel scope env }) c4 _ t' m (fun x hx => ?_) hn fun g m' _ sb => wpAny_pure (hq g sb))
      rcases List.mem_append.mp hx with z | z
      · exact inR x (List.mem_of_mem_drop z)
      · exact inR x (List.mem_of_mem_take z)
end
section
variable {M : Model} {A : Around} {E₁ : Value → Shared → Prop} {env : Env} {outer : List Env} {L a : Addr} {Z : Obj → Prop} {B : Heap} {s : Shared}
/-- a frame notes what flies, whoever held it -/
theorem note_any {fl : Value} {Q : Unit → Shared → Prop} (hZ : HandSPX.Steady Z) (hfr : A.frames = some (env :: outer)) (hf : env.frame = some L) (b1 : B.StaysIn s.heap) (b2 : B.get? a = none) (b3 : s.heap.FunFrames B (env :: outer)) (tr : HandSPX.TracedZ s.heap B a Z fl)
    (hQ : ∀ g, HandSPX.HeldZ B (env :: outer) a Z L g → s.heap.UpToSlots g → Q () { s with heap := g }) : wpAny M A (noteFrame (.ref a) env) Q E₁ s := by
  by_cases hfl : fl = rawInt L
  · subst hfl
    exact HandSPX.againZ hf tr (hQ s.heap ⟨b1, b2, b3, tr⟩ (Heap.UpToSlots.refl _))
  · obtain ⟨oe, vs, T, oT, ts, he, hz, hd, q1, nT, Ta, gT, dT, q3⟩ := tr
    have no : ¬ ((fl == rawInt L) = true) := fun z => hfl (beq_iff_eq.mp z)
    unfold noteFrame
    simp only [hf]
    refine wpAny_bind (wpAny_field he hd q1 ?_)
    rw [if_pos (by simp : (Value.ref T != Value.none) = true)]
    refine wpAny_bind (wpAny_field gT dT q3 ?_)
    rw [if_neg no]
    refine wpAny_bind (wpAny_setField gT dT (Array.getElem?_eq_some_iff.mp q3).1 ?_)
    have away : ∀ b, b ≠ T → (s.heap.update T (Obj.mapFields (·.setIfInBounds 3 Value.none))).get? b = s.heap.get? b := fun b hb => Heap.get?_update_other _ _ (Ne.symm hb)
    have plain : ∀ b o, s.heap.get? b = some o → (∀ vs, o.data ≠ .fields vs) → b ≠ T := fun b o hb hn z => by
      rw [z, gT] at hb
      cases hb
      exact hn ts dT
    refine HandSPX.wpAny_entryZ hZ hfr (b3.of_keeps fun b o hb hn => ⟨o, (away b (plain b o hb hn)).trans hb, rfl⟩) hf ((away a (Ne.symm Ta)).trans he) (fun b o hb => (away b fun z => by
      rw [z, nT] at hb
      cases hb).trans (b1 b o hb)) b2 hd (Array.getElem?_eq_some_iff.mp q1).1 hz fun g hN => ?_
    obtain ⟨y1, y2, y3, y4⟩ := hN
    exact hQ g ⟨y1, b2, y2, y3⟩ fun b o hb hn => y4 b o ((away b (plain b o hb hn)).trans hb) hn
/-- whatever is in the air, noted here -/
theorem note_sky {C : Addr} {Q : Unit → Shared → Prop} (hZ : HandSPX.Steady Z) (hfr : A.frames = some (env :: outer)) (hf : env.frame = some L) (x : Sky B (env :: outer) a Z C s.heap)
    (hQ : ∀ g, HandSPX.HeldZ B (env :: outer) a Z L g → s.heap.UpToSlots g → Q () { s with heap := g }) : wpAny M A (noteFrame (.ref a) env) Q E₁ s := by
  rcases x with ⟨h1, h2, h3, oe, vs, h4, h5, h6, h7⟩ | ⟨h1, h2, h3, h4⟩ | ⟨h1, h2, h3, h4⟩
  · exact HandSPX.look_newZ hZ hfr h3 hf h4 h1 h2 h6 h7 h5 hQ
  · exact note_any hZ hfr hf h1 h2 h3 h4 hQ
  · exact note_any hZ hfr hf h1 h2 h3 h4 hQ
end
/-- a block's context with a place for what is raised -/
abbrev blkx (X : Cx) (s : Shared) (H : Hp) (scope : Scope) (ce : Env) (fp : List Addr) (pn : List (Addr × Obj)) (xe : Value → Shared → Prop) : Cx := (X.blk s H scope ce fp).tr pn xe
theorem ff_move {h g B B' : Heap} {C : Addr} (hb : ∀ L, B.get? L = none → B'.get? L = none) (hh : ∀ L o, L ≠ C → h.get? L = some o → g.get? L = some o) : ∀ {l : List Env}, C ∉ frs l → h.FunFrames B l → g.FunFrames B' l
  | [], _, _ => True.intro
  | e :: r, hC, ⟨k, ⟨L, o, e1, e2, e3, e4⟩, q⟩ => by
    have hL : L ≠ C := fun z => hC (List.mem_filterMap.mpr ⟨e, List.mem_cons_self, by rw [e1, z]⟩)
    refine ⟨k, ⟨L, o, e1, hb L e2, hh L o hL e3, e4⟩, ff_move hb hh (fun z => hC ?_) q⟩
    obtain ⟨e', h1, h2⟩ := List.mem_filterMap.mp z
    exact List.mem_filterMap.mpr ⟨e', List.mem_cons_of_mem _ h1, h2⟩
theorem comp_err {X : Cx} {W W2 : WX} {pins : List (Addr × Obj)} {σ : L2.St} {H3 : Hp} {s3 s5 : Shared} {scope : Scope} {ce : Env} {fp : List Addr} {pn : List (Addr × Obj)} {xe : Value → Shared → Prop} {use : Option (Value → Sem Unit)} {Qf : Value → Shared → Prop} {acc u : Value}
    (tk : Takes X W) (hst : X.stack = X.env :: X.outer) (hf : X.env.frame = some X.env.locals) (hce : ce.frame = X.env.frame) (cL : ce.locals = s3.heap.objs.size) (I3 : Inv X pins σ H3 s3) (f3 : ∀ b ∈ fp, FpOk X pins H3 b)
    (hW : ∀ cls d σ' H', W2 cls d σ' H' → W cls d σ H') (x : XE (blkx X s3 H3 scope ce fp pn xe) W2 u s5) :
    notedBy (model X.prog X.w) X.A ce (fun e t => CPost (model X.prog X.w) X.A X.xe use Qf acc s3.heap.objs.size X.env.frame (.error e) t) u s5 := by
  obtain ⟨a, B, sI, ps1, σ1, H1, cls, d, rfl, J, nb, up, sky, na, os, bare, wish⟩ := x
  have frX : X.A.frames = some (X.env :: X.outer) := I3.ok.frames.trans (congrArg some hst)
  have same : (noteFrame (.ref a) ce : Sem Unit) = noteFrame (.ref a) X.env := by
    unfold PySem.noteFrame PySem.frameOf
    rw [hce]
  show wpAny _ _ (noteFrame (.ref a) ce) _ _ s5
  rw [same]
  have sky' : Sky B (X.env :: X.outer) a (Zc cls d) ce.locals s5.heap := by
    have z : Sky B X.stack a (Zc cls d) ce.locals s5.heap := sky
    rw [hst] at z
    exact z
  refine note_sky Zc.steady frX hf sky' fun g held up1 => ?_
  have J2 : Inv (blkx X s3 H3 scope ce fp pn xe) ps1 σ1 H1 { s5 with heap := g } := J.landed nb held.1 (up.trans up1) os bare
  obtain ⟨m, hn, _⟩ := J2.loc
  have hn : g.Ns ce.locals m := hn
  rw [cL] at hn
  refine ⟨m, hn, fun g2 sb c2 l2 fr2 => ?_⟩
  obtain ⟨h1, h2, h3, oe, vs, T, oT, ts, he, hz, hd, q1, nT, Ta, gT, dT, q3⟩ := held
  obtain ⟨oC, es, ep, eC, dC, _⟩ := id hn
  have aC : a ≠ s3.heap.objs.size := fun z => by
    rw [z] at he
    rw [he] at eC
    cases eC
    rw [hd] at dC
    cases dC
  have TC : T ≠ s3.heap.objs.size := fun z => by
    rw [z] at gT
    rw [gT] at eC
    cases eC
    rw [dT] at dC
    cases dC
  have notfr : s3.heap.objs.size ∉ frs X.stack := fun hm => by
    obtain ⟨_, o, e, _⟩ := I3.stack.mem hm
    exact absurd (Heap.lt_size e) (Nat.lt_irrefl _)
  have notfr' : s3.heap.objs.size ∉ frs (X.env :: X.outer) := by rw [← hst]; exact notfr
  obtain ⟨B', B1, B2⟩ := restrict B fun b => decide (b ≠ s3.heap.objs.size)
  obtain ⟨G, G1, G2⟩ := restrict sI.heap fun b => decide (b ≠ s3.heap.objs.size)
  have B1' : ∀ b, b ≠ s3.heap.objs.size → B'.get? b = B.get? b := fun b hb => B1 b (decide_eq_true hb)
  have B2' : B'.get? s3.heap.objs.size = none := B2 _ (by simp)
  have G1' : ∀ b, b ≠ s3.heap.objs.size → G.get? b = sI.heap.get? b := fun b hb => G1 b (decide_eq_true hb)
  have G2' : G.get? s3.heap.objs.size = none := G2 _ (by simp)
  have Bn : ∀ b, B.get? b = none → B'.get? b = none := fun b hb => by
    by_cases z : b = s3.heap.objs.size
    · rw [z]; exact B2'
    · rw [B1' b z]; exact hb
  have held2 : HandSPX.HeldZ B' (X.env :: X.outer) a (Zc cls d) X.env.locals g2 := by
    refine ⟨fun b o e => ?_, Bn a h2, ff_move Bn (fun b o hb e => (sb.2 b hb).trans e) notfr' h3, oe, vs, T, oT, ts, (sb.2 a aC).trans he, hz, hd, q1, Bn T nT, Ta, (sb.2 T TC).trans gT, dT, q3⟩
    by_cases z : b = s3.heap.objs.size
    · rw [z, B2'] at e
      cases e
    · rw [B1' b z] at e
      exact (sb.2 b z).trans (h1 b o e)
  have I7 : Inv X pins σ H1 sI := I3.call' (ch := fp) J.os J.base J.hok J.bare fun b hb => ⟨(f3 b hb).2.2.2.1, (f3 b hb).2.1, (f3 b hb).2.2.2.2.1, (f3 b hb).2.2.2.2.2⟩
  have nC : H1 s3.heap.objs.size = none := by
    have z : H1 ce.locals = none := J.free
    rw [cL] at z
    exact z
  obtain ⟨_, c2', _, c4', c5', c6'⟩ := I3.fpOk (Nat.le_refl _) nC
  have I8 : Inv X pins σ H1 { sI with heap := G } := I7.turned (t' := sI.toks) (it := s3.heap.objs.size) (fun b o hb e => (G1' b hb).trans e) nC c2' c4' c5' c6'
  have gone : ∀ b o, G.get? b = some o → b ≠ s3.heap.objs.size := fun b o e z => by
    rw [z, G2'] at e
    cases e
  unfold PySem.passOn
  refine wpAny_bind (wpAny_field ((sb.2 a aC).trans he) hd q1 ?_)
  rw [if_neg (by simp : ¬ ((Value.ref T == Value.none) = true))]
  have fin : wpAny (model X.prog X.w) X.A (setFlight (.ref a) (some X.env.locals)) (fun _ t => wpAny (model X.prog X.w) X.A (throw (.ref a) : Sem Value) (fun _ _ => False) X.xe t) X.xe { s5 with heap := g2 } := by
    refine HandSPX.setFlight_onZ held2 fun g3 held3 up3 => wpAny_throw (tk _ _ ?_)
    refine ⟨a, B', { sI with heap := G }, pins, σ, H1, cls, d, rfl, I8, fun b o e hb => ?_, fun b o e hd2 => ?_, .inr (.inr (by rw [hst]; exact held3)), na, os, bare, hW _ _ _ _ wish⟩
    · have z := gone b o e
      rw [B1' b z]
      exact nb b o (by rw [← G1' b z]; exact e) hb
    · have z := gone b o e
      obtain ⟨sl, e2⟩ := (up.trans up1) b o (by rw [← G1' b z]; exact e) hd2
      obtain ⟨sl2, e3⟩ := up3 b _ ((sb.2 b z).trans e2) hd2
      exact ⟨sl2, e3⟩
  rw [fr2, hf]
  first
    | exact wpAny_bind fin
    | exact wpAny_bind (wpAny_pure (wpAny_bind fin))
/-- the parts' reading in a block, whatever is wished of what they raise -/
def PEx (X : Cx) (scope : Scope) (e : Expr) (te : WX → TE) : Prop := ∀ (s : Shared) (H : Hp) (C : Addr) (cl : List (Str × Addr)) (fp : List Addr) (pn : List (Addr × Obj)) (xe : Value → Shared → Prop) (W2 : WX), Takes (blkx X s H scope (compEnvC scope cl C X.env) fp pn xe) W2 →
  PE (blkx X s H scope (compEnvC scope cl C X.env) fp pn xe) e (te W2)
def tLcX (wi : TI) (g : TG) (tt : TT) (te : WX → TE) (W : WX) (vs : List Nat) : TE := fun σ H Q => tLc wi g tt (te fun cls od _ H' => W cls od σ H') vs σ H Q
section
variable {X : Cx} {W : WX} {elt tg iter : Expr} {ifs : List Expr} {scope : Scope} {own : List (Str × Nat)} {pos : Pos} {wi : TI} {g : TG} {tt : TT} {te : WX → TE}
theorem pe_lcX (tk : Takes X W) (hst : X.stack = X.env :: X.outer) (hf : X.env.frame = some X.env.locals) (hc : X.calm = true) (hN : X.N.Nodup) (hi : PI X tg iter wi) (ok : BlkOk X.N X.env.scope scope own)
    (hg : ∀ (s : Shared) (H : Hp) (C : Addr) (cl : List (Str × Addr)) (fp : List Addr), PG (X.blk s H scope (compEnvC scope cl C X.env) fp) tg g) (ht : ∀ (s : Shared) (H : Hp) (C : Addr) (cl : List (Str × Addr)) (fp : List Addr), PTs (X.blk s H scope (compEnvC scope cl C X.env) fp) ifs tt)
    (he : PEx X scope elt te) (hs : ∀ x, foldedSetIterable iter X.env x = pure x := by intro _; rfl) : PE X (.ListComp elt [⟨tg, iter, ifs, 0⟩] scope pos) (tLcX wi g tt te W (own.map (·.2))) := by
  refine ⟨fun pins s σ H Q I h => ?_⟩
  rw [eval_ListComp]
  refine wpAny_compF (use := none) rfl hs (closure_ok fun y hy e => ?_) ok.kind (fun y hy e => by rw [ok.uniq y hy, e]) (thn (hi.run pins s σ H _ I h) fun xv t1 hx => thn hx fun itv t2 h2 => ?_)
  · rcases ok.free y hy e with k | k
    · exact I.ok.has _ (.inl k)
    · exact I.ok.has _ (.inr k)
  obtain ⟨it, fp, tn, J, H2, e, I2, T, z2, f2, q⟩ := h2
  subst e
  refine wpAny_newObj_type (newEnv_comp ?_) (by show 0 ≤ sizeLine; decide)
  obtain ⟨D, hD⟩ : ∃ D, t2.heap.objs.size = D := ⟨_, rfl⟩
  obtain ⟨V, ⟨m0, w0⟩, turn⟩ := q D (I2.hok.fresh (Nat.le_of_eq hD))
  rw [hD]
  obtain ⟨t3, ht3⟩ : ∃ t3 : Shared, ({ t2 with heap := t2.heap.push { cls := .type "list", data := .seq ([] : List Value).toArray } } : Shared) = t3 := ⟨_, rfl⟩
  have p3 : t3.heap = t2.heap.push { cls := .type "list", data := .seq ([] : List Value).toArray } := by rw [← ht3]
  have I3 : Inv X pins σ (upd H2 D (.lst [])) t3 := by
    rw [← ht3]
    exact I2.laid (t' := t2.toks) (fun b o z => Heap.get?_push_of_some _ z) (Nat.le_of_eq hD) ⟨Nat.zero_le _, [], 0, .nil, by rw [← hD]; exact Heap.get?_push_size _ rfl⟩
  have f3 : ∀ b ∈ fp, FpOk X pins (upd H2 D (.lst [])) b ∧ b < t3.heap.objs.size := fun b hb => by
    obtain ⟨o, z, _⟩ := T.obj _ _ z2 b hb
    have lt := Heap.lt_size z
    refine ⟨⟨?_, (f2 b hb).2⟩, by rw [p3, Heap.size_push]; exact Nat.lt_succ_of_lt lt⟩
    rw [upd_ne (by rw [← hD]; exact Nat.ne_of_lt lt)]
    exact (f2 b hb).1
  have z3 : tn 0 t3.heap := T.keep _ _ _ z2 fun b _ o z => by rw [p3]; exact Heap.get?_push_of_some _ z
  rw [ht3]
  have I4 := block_start I3 ok hN f3
  obtain ⟨cl, hcl⟩ : ∃ cl, cellsFrom (t3.heap.objs.size + 1) scope.names (cloFrom X.env.cells scope.names []) = cl := ⟨_, rfl⟩
  rw [hcl] at I4
  have pg := hg t3 (upd H2 D (.lst [])) t3.heap.objs.size cl fp
  have pt := ht t3 (upd H2 D (.lst [])) t3.heap.objs.size cl fp
  have pe := he t3 (upd H2 D (.lst [])) t3.heap.objs.size cl fp
  show codeAny _ _ (.compStart (.ListComp elt [⟨tg, iter, ifs, 0⟩] scope pos) 0 (.ref it) (.ref D) (compEnvC scope (cellsFrom (t3.heap.objs.size + 1) scope.names (cloFrom X.env.cells scope.names [])) t3.heap.objs.size X.env)) (CPost (model X.prog X.w) X.A X.xe none (EP X pins σ Q) (.ref D) t3.heap.objs.size X.env.frame) { t3 with heap := pushCells (t3.heap.push { cls := .type "dict", data := .dict #[] }) scope.names }
  rw [hcl]
  obtain ⟨ce, hce⟩ : ∃ ce, compEnvC scope cl t3.heap.objs.size X.env = ce := ⟨_, rfl⟩
  have cL : ce.locals = t3.heap.objs.size := by rw [← hce]; rfl
  have cF : ce.frame = X.env.frame := by rw [← hce]; rfl
  rw [hce] at I4 pg pt pe ⊢
  obtain ⟨H3, hH3⟩ : ∃ H3, upd H2 D (.lst []) = H3 := ⟨_, rfl⟩
  rw [hH3] at I3 I4 pg pt pe w0 f3
  obtain ⟨t4, ht4⟩ : ∃ t4 : Shared, ({ t3 with heap := pushCells (t3.heap.push { cls := .type "dict", data := .dict #[] }) scope.names } : Shared) = t4 := ⟨_, rfl⟩
  rw [ht4] at I4 ⊢
  have z4 : tn 0 t4.heap := T.keep _ _ _ z3 fun b _ o z => by rw [← ht4]; exact pushCells_keeps _ _ _ _ (Heap.get?_push_of_some _ z)
  have quiet : ∀ {σ' : L2.St} {H' : Hp} {t : Shared}, Inv (X.blk t3 H3 scope ce fp) [] σ' H' t → (∀ b ∈ fp, H' b = none) → ∀ b ∈ fp, FpOk (X.blk t3 H3 scope ce fp) [] H' b := fun {σ' H' t} I' n b hb =>
    ⟨n b hb, (I'.ok.exf b hb).1, I'.ok.exfs b hb, .inl hb, fun x c z => (I'.ok.exf b hb).2 x c z, fun p hp => absurd (show p ∈ ([] : List (Addr × Obj)) ++ [] from hp) (by simp)⟩
  have loop : codeAny (model X.prog X.w) X.A (.compLoop (.ListComp elt [⟨tg, iter, ifs, 0⟩] scope pos) 0 (.ref it) (.ref D) ce) (CPost (model X.prog X.w) X.A X.xe none (EP X pins σ Q) (.ref D) t3.heap.objs.size X.env.frame) t4 := by
    refine compLoop_any (fun n t => ∃ i H', Inv (X.blk t3 H3 scope ce fp) [] (wipe σ (own.map (·.2))) H' t ∧ tn i t.heap ∧ (∀ b ∈ fp, H' b = none) ∧ V i n H') ?_ m0 ⟨0, H3, I4, z4, fun b hb => (f3 b hb).1.1, w0⟩
    rintro n t5 ⟨i, H5, I5, z5, n5, w5⟩
    rcases turn i n H5 w5 with ⟨stop, qq⟩ | ⟨go, Nx, hNx, step⟩
    · refine thnF (T.done (X.blk t3 H3 scope ce fp) rfl rfl rfl hc i [] t5 _ H5 (fun _ _ => False) I5 (quiet I5 n5) z5 stop) fun r t6 ⟨hr, I6⟩ => ?_
      subst hr
      have I7 : Inv X pins σ H5 t6 := I3.call' (ch := fp) I6.os I6.base I6.hok I6.bare fun b hb => ⟨(f3 b hb).1.2.2.2.1, (f3 b hb).1.2.1, (f3 b hb).1.2.2.2.2.1, (f3 b hb).1.2.2.2.2.2⟩
      have nC : H5 t3.heap.objs.size = none := by
        have z : H5 ce.locals = none := I6.free
        rw [cL] at z
        exact z
      obtain ⟨m, hn, _⟩ := I6.loc
      have hn : t6.heap.Ns ce.locals m := hn
      rw [cL] at hn
      obtain ⟨k0, k1, k2, k3, k4, k5⟩ := I3.fpOk (Nat.le_refl _) nC
      exact ⟨m, hn, fun h'' sb => ⟨.ref D, H5, I7.turned (t' := t6.toks) (fun b o hb z => (sb.2 b hb).trans z) k0 k1 k3 k4 k5, rfl, qq⟩⟩
    · refine thnF (T.item (X.blk t3 H3 scope ce fp) rfl rfl rfl hc i [] t5 _ H5 (fun _ _ => False) I5 (quiet I5 n5) z5 go) fun r t6 ⟨u, hr, h6⟩ => ?_
      subst hr
      refine thnF h6 fun _ t7 ⟨x, H7, I7, r7, y7, z7, n7⟩ => ?_
      refine thnF (pg.run _ t7 _ H7 x u _ (I7.pinned (quiet I7 n7) (T.obj _ _ z7)) r7 (step x H7 y7)) fun _ t8 ⟨σ8, H8, I8, hw8, q8⟩ => ?_
      refine thnF (pt.run _ t8 σ8 H8 _ I8 q8) fun b t9 ⟨H9, I9, q9⟩ => ?_
      have next : ∀ {t : Shared} {H' : Hp}, Inv (X.blk t3 H3 scope ce fp) ([] ++ pinsAt fp t7.heap) σ8 H' t → Nx H' → ∃ m, m < n ∧ ∃ i H', Inv (X.blk t3 H3 scope ce fp) [] (wipe σ (own.map (·.2))) H' t ∧ tn i t.heap ∧ (∀ b ∈ fp, H' b = none) ∧ V i m H' := fun {t H'} I' nx => by
        obtain ⟨m', hm, w'⟩ := hNx H' nx
        have pin' : ∀ b ∈ fp, ∀ o, t7.heap.get? b = some o → t.heap.get? b = some o ∧ H' b = none := fun b hb o z =>
          let y := I'.pin (b, o) (List.mem_append_right _ (List.mem_append_right _ (mem_pinsAt hb z)))
          ⟨y.1, y.2.1⟩
        refine ⟨m', hm, i + 1, H', (I'.unpinned (pins := [])).weak (by rw [← hw8, wipe_length]) (fun j v z => ?_), T.keep _ _ _ z7 fun b hb o z => (pin' b hb o z).1, fun b hb => ?_, w'⟩
        · rw [← hw8] at z
          exact (wipe_some z).1
        · obtain ⟨o, z, _⟩ := T.obj _ _ z7 b hb
          exact (pin' b hb o z).2
      cases b with
      | false =>
        simp only [Bool.false_eq_true, if_false] at q9 ⊢
        exact next I9 q9
      | true =>
        simp only [if_true] at q9 ⊢
        have okB := I9.ok
        have tk2 : Takes (blkx X t3 H3 scope ce fp ((X.blk t3 H3 scope ce fp).pn ++ ([] ++ pinsAt fp t7.heap)) (notedBy (model X.prog X.w) X.A ce fun e t => CPost (model X.prog X.w) X.A X.xe none (EP X pins σ Q) (.ref D) t3.heap.objs.size X.env.frame (.error e) t)) (fun cls od _ H' => W cls od σ H') :=
          fun u t z => comp_err tk hst hf cF cL I3 (fun b hb => (f3 b hb).1) (fun _ _ _ _ y => y) z
        have run := (pe _ _ _ tk2).run [] t9 σ8 H9 _ (I9.toTry _) q9
        refine wpAny_mono run (fun z t10 ⟨yv, H10, I10, r10, acc, hD10, hz10, nx⟩ => ?_) fun _ _ y => y
        exact app_ok (X := X.blk t3 H3 scope ce fp) (I10.ofTry okB) hD10 hz10 r10 fun t11 I11 => next I11 nx
  exact codeAny_compStart_list loop (T.self X.A 0 _ _ _ z4 loop)
end
end Eng

set_option maxHeartbeats 2000000
/-! The engine, part 32: what a comprehension with parts that raise means. -/
namespace Eng
open PySem PySem.Spec PyProof.Rows L2
variable [TabCfg]
def lcG (it : ItD) (f : Ft) (mt : Mb) (m : Mx) (ρ : Env') (n : Nat) : Nat → Nat → Sto → R D
  | 0, _, S => if it.fin S = true then .ok (.ref n) S else .stuck
  | k + 1, i, S => match it.nx i S with
    | none => .stuck
    | some d => match f d ρ with
      | none => .stuck
      | some ρ1 => match mt ρ1 S with
        | .ok false S1 => lcG it f mt m ρ n k (i + 1) S1
        | .ok true S1 => match m ρ1 S1 with
          | .ok y S2 => match S2[n]? with
            | some (.lst acc) => if acc.length < sizeLine then lcG it f mt m ρ n k (i + 1) (S2.set n (.lst (acc ++ [y]))) else .stuck
            | _ => .stuck
          | .ex z S2 => .ex z S2
          | .stuck => .stuck
        | _ => .stuck
def mLcX (mi : Mi) (f : Ft) (mt : Mb) (m : Mx) (own : List Nat) : Mx := fun ρ S => (mi ρ S).bind fun it S1 => lcG it f mt m (wipeD ρ own) S1.length it.cnt 0 (S1 ++ [.lst []])
section
variable {X : Cx} {W : WX} {pos : Pos}
theorem lcx_of {mi : Mi} {f : Ft} {mt : Mb} {m : Mx} {own is : List Nat} {g : TG} (hg : ∀ v σ H Q, (∃ β S ρ d ρ', Rl X.K X.mg β H S ∧ En X.K X.mg β H ρ σ ∧ Vd X.K X.mg β H v d ∧ f d ρ = some ρ' ∧ ∀ vs, En X.K X.mg β H ρ' (setAllV is vs σ) → Q (setAllV is vs σ) H) → g v σ H Q) (his : ∀ i ∈ is, i ∈ own) {σ : L2.St} {H : Hp} {Q : VK} (h : tM X.K X.mg W (mLcX mi f mt m own) σ H Q) :
    tLcX (tMI X.K X.mg W mi) g (tMT X.K X.mg W0 mt) (fun W2 => tM X.K X.mg W2 m) W own σ H Q := by
  obtain ⟨β, S, ρ, rl, en, p⟩ := h
  refine ⟨β, S, ρ, rl, en, (Po.bind p).mono fun it β1 S1 H1 x1 r1 q J hJ Dl hD => ?_⟩
  obtain ⟨xn, rn, vn⟩ := r1.newL (ds := []) (vs := []) .nil hD
  refine ⟨fun i k H => ∃ β S, Xt X.K β1 H1 β H ∧ β[S1.length]? = some Dl ∧ Rl X.K X.mg β H S ∧ i + k = it.cnt ∧ Po X.K X.mg W σ β H (lcG it f mt m (wipeD ρ own) S1.length k i S) (fun d β' _ H' => ∀ v, Vd X.K X.mg β' H' v d → Q v H'), ⟨it.cnt, β1 ++ [Dl], S1 ++ [.lst []], xn, ?_, rn, Nat.zero_add _, q.xt xn⟩, ?_⟩
  · obtain ⟨a, e, h1⟩ := vn.ref_inv
    cases e
    exact h1
  rintro i k H2 ⟨β2, S2, x2, hL, r2, hm, p2⟩
  obtain ⟨h1, h2⟩ := hJ β2 H2 S2 x2 r2
  cases k with
  | zero =>
    unfold lcG at p2
    split at p2
    · rename_i hf
      have e : i = it.cnt := by omega
      subst e
      exact .inl ⟨h2 hf, p2 β2 H2 .refl r2 _ (.ref hL)⟩
    · exact p2.elim
  | succ k =>
    unfold lcG at p2
    cases e1 : it.nx i S2 with
    | none => rw [e1] at p2; exact p2.elim
    | some d =>
      rw [e1] at p2
      dsimp only at p2
      cases e2 : f d (wipeD ρ own) with
      | none => rw [e2] at p2; exact p2.elim
      | some ρ1 =>
        rw [e2] at p2
        dsimp only at p2
        obtain ⟨go, yld⟩ := h1 i d (by omega) e1
        refine .inr ⟨go, fun H => ∃ β S, Xt X.K β1 H1 β H ∧ β[S1.length]? = some Dl ∧ Rl X.K X.mg β H S ∧ (i + 1) + k = it.cnt ∧ Po X.K X.mg W σ β H (lcG it f mt m (wipeD ρ own) S1.length k (i + 1) S) (fun d β' _ H' => ∀ v, Vd X.K X.mg β' H' v d → Q v H'), fun H' w => ⟨k, Nat.lt_succ_self k, w⟩, fun v H3 hy => ?_⟩
        obtain ⟨x3, r3, hv⟩ := yld v H3 hy
        refine hg v _ H3 _ ⟨β2, S2, wipeD ρ own, d, ρ1, r3, ((en.ext (x1.trans (x2.trans x3))).wipe own), hv, e2, fun vs en2 => ⟨?_, β2, S2, ρ1, r3, en2, ?_⟩⟩
        · rw [wipe_setAll his, wipe_wipe fun i hi => hi]
        · cases e3 : mt ρ1 S2 with
          | ok b S3 =>
            rw [e3] at p2
            intro β4 H4 x4 r4
            cases b with
            | false =>
              rw [if_neg Bool.false_ne_true]
              exact ⟨β4, S3, (x2.trans x3).trans x4, x4.at' (x3.at' hL), r4, by omega, Po.xt p2 (x3.trans x4)⟩
            | true =>
              rw [if_pos rfl]
              dsimp only at p2
              refine ⟨β4, S3, ρ1, r4, en2.ext x4, ?_⟩
              cases e4 : m ρ1 S3 with
              | ok y S4 =>
                rw [e4] at p2
                dsimp only at p2
                intro β5 H5 x5 r5 w hw
                have hL5 : β5[S1.length]? = some Dl := x5.at' (x4.at' (x3.at' hL))
                split at p2
                · rename_i acc q4
                  split at p2
                  · rename_i hz
                    obtain ⟨us, h3, h4⟩ := r5.lst_at hL5 q4
                    obtain ⟨r6, x6⟩ := r5.write (o := .lst (us ++ [w])) (b' := .lst (acc ++ [y])) hL5 q4 rfl rfl fun x => ⟨_, upd_same, (h4.append (.cons hw .nil)).ext x⟩
                    exact ⟨us, h3, by rw [h4.length]; exact hz, β5, _, (((x2.trans x3).trans x4).trans x5).trans x6, x6.at' hL5, r6, by omega, Po.xt p2 (((x3.trans x4).trans x5).trans x6)⟩
                  · exact p2.elim
                · exact p2.elim
              | ex z S4 =>
                rw [e4] at p2
                exact fun cls od β5 H5 x5 r5 xd => p2 cls od β5 H5 ((x3.trans x4).trans x5) r5 xd
              | stuck => rw [e4] at p2; exact p2.elim
          | ex z S3 => rw [e3] at p2; exact p2.elim
          | stuck => rw [e3] at p2; exact p2.elim
theorem me_lcx {elt tg iter : Expr} {ifs : List Expr} {scope : Scope} {own : List (Str × Nat)} {mi : Mi} {f : Ft} {mt : Mb} {m : Mx} {is : List Nat} (tk : Takes X W) (hN : X.N.Nodup) (hi : MI X W tg iter mi) (ok : BlkOk X.N X.env.scope scope own)
    (hg : ∀ (s : Shared) (H : Hp) (C : Addr) (cl : List (Str × Addr)) (fp : List Addr), MGc (X.blk s H scope (compEnvC scope cl C X.env) fp) tg is f)
    (ht : ∀ (s : Shared) (H : Hp) (C : Addr) (cl : List (Str × Addr)) (fp : List Addr), MTs (X.blk s H scope (compEnvC scope cl C X.env) fp) W0 ifs mt)
    (he : ∀ (s : Shared) (H : Hp) (C : Addr) (cl : List (Str × Addr)) (fp : List Addr) (pn : List (Addr × Obj)) (xe : Value → Shared → Prop) (W2 : WX), Takes (blkx X s H scope (compEnvC scope cl C X.env) fp pn xe) W2 → ME (blkx X s H scope (compEnvC scope cl C X.env) fp pn xe) W2 elt m)
    (his : ∀ i ∈ is, i ∈ own.map (·.2) := by decide) (hc : X.calm = true := by rfl) (hst : X.stack = X.env :: X.outer := by rfl) (hf : X.env.frame = some X.env.locals := by rfl) (hs : ∀ x, foldedSetIterable iter X.env x = pure x := by intro _; rfl) :
    ME X W (.ListComp elt [⟨tg, iter, ifs, 0⟩] scope pos) (mLcX mi f mt m (own.map (·.2))) :=
  ⟨PE.weak (pe_lcX tk hst hf hc hN hi.pi ok (fun s H C cl fp => (hg s H C cl fp).pg) (fun s H C cl fp => (ht s H C cl fp).pts) (te := fun W2 => tM X.K X.mg W2 m) (fun s H C cl fp pn xe W2 t => (he s H C cl fp pn xe W2 t).pe) hs) fun σ H Q h => lcx_of (fun v σ H Q h => h) his h⟩
end
/-- such a comprehension by an invariant: it ends, or one of its parts raises -/
theorem lcg_inv {it : ItD} {f : Ft} {m : Mx} {ρ : Env'} {n : Nat} (P : Nat → Sto → Prop) (Rz : Exn → Sto → Prop) (step : ∀ i S, i < it.cnt → P i S → ∃ d ρ1, it.nx i S = some d ∧ f d ρ = some ρ1 ∧
      ((∃ x S2, m ρ1 S = .ex x S2 ∧ Rz x S2) ∨ ∃ y S2 acc, m ρ1 S = .ok y S2 ∧ S2[n]? = some (.lst acc) ∧ acc.length < 16777216 ∧ P (i + 1) (S2.set n (.lst (acc ++ [y])))))
    (fin : ∀ S, P it.cnt S → it.fin S = true) {S : Sto} (h0 : P 0 S) : (∃ S', lcG it f mYes m ρ n it.cnt 0 S = .ok (.ref n) S' ∧ P it.cnt S') ∨ ∃ x S', lcG it f mYes m ρ n it.cnt 0 S = .ex x S' ∧ Rz x S' := by
  have key : ∀ k i S, i + k = it.cnt → P i S → (∃ S', lcG it f mYes m ρ n k i S = .ok (.ref n) S' ∧ P it.cnt S') ∨ ∃ x S', lcG it f mYes m ρ n k i S = .ex x S' ∧ Rz x S' := by
    intro k
    induction k with
    | zero =>
      intro i S hi h
      have e : i = it.cnt := by omega
      subst e
      exact .inl ⟨S, by rw [lcG, if_pos (fin S h)], h⟩
    | succ k ih =>
      intro i S hi h
      obtain ⟨d, ρ1, e1, e2, e3⟩ := step i S (by omega) h
      rw [lcG, e1]
      dsimp only
      rw [e2]
      dsimp only
      rw [show mYes ρ1 S = R.ok true S from rfl]
      dsimp only
      rcases e3 with ⟨x, S2, e4, e5⟩ | ⟨y, S2, acc, e4, e5, e6, e7⟩
      · rw [e4]
        exact .inr ⟨x, S2, rfl, e5⟩
      · rw [e4]
        dsimp only
        rw [e5]
        dsimp only
        rw [if_pos (show acc.length < sizeLine by rw [sizeLine_eq]; exact e6)]
        exact ih (i + 1) _ (by omega) e7
  exact key it.cnt 0 S (by omega) h0
end Eng

set_option maxHeartbeats 2000000
/-! The engine, part 33: list(reversed(xs)), xs.pop(), a field's function called, defs that call themselves. -/
namespace Eng
open PySem PySem.Spec PyProof.Rows L2
section
variable {prog : Program} {w : World} {A : Around} {E : Value → Shared → Prop} {s : Shared}
theorem extend_rev {it l S : Addr} {items : Array Value} {res : Value} {R : Result → Shared → Prop} {c₀ : Nat} (hh : A.handled = none) (hit : s.heap.IsRevIter it l ((items.size : Int) - 1)) (hl : s.heap.IsList l items) (hn : items.size ≤ sizeLine)
    (hSi : S ≠ it) (hSl : S ≠ l) (hne : l ≠ it) (hS : s.heap.get? S = some { cls := .type "list", data := .seq #[] c₀ })
    (hR : ∀ (h' : Heap) (tk : Nat) (acc : Array Value) (c' : Nat), (∀ b o, b ≠ it → b ≠ S → s.heap.get? b = some o → h'.get? b = some o) → h'.get? S = some { cls := .type "list", dict := none, data := .seq acc c', slots := #[] } →
      ItemsOf (fun i v => items[items.size - 1 - i]? = some v) acc items.size → R (.ok (.ret res)) { s with heap := h', toks := tk }) :
    wpAny (model prog w) A.in1 (Builtin.List.listExtendWith (.ref S) (.ref it) res)
      (fun fin s' => match fin with | .done f => R (.ok f) s' | .again c' => c'.quiet = true ∧ codeAny (model prog w) A c' R s') (fun e s' => R (.error e) s') s := by
  have W := (Walks.listRev (prog := prog) (w := w) (A := A.in1) hh it l hne items).toS
  have hSf : S ∉ [it, l] := by simp only [List.mem_cons, List.not_mem_nil, or_false, not_or]; exact ⟨hSi, hSl⟩
  have hT : s.TypeIs (.ref it) "list_reverseiterator" := hit.typeIs
  have h1 : Builtin.List.listSameRef (.ref S) (.ref it) = false := by simp [Builtin.List.listSameRef, hSi]
  unfold Builtin.List.listExtendWith
  refine wpAny_bind (wpAny_typeOf hT ?_)
  rw [if_neg (by rw [h1]; decide)]
  refine wpAny_bind (wpAny_pyIter_revIter hit ?_)
  refine wpAny_bind (wpAny_holding ?_)
  unfold Builtin.List.listLengthHint
  refine wpAny_bind (wpAny_specialOf hT RT.nolen_lri ?_)
  show wpAny _ A.in1 (specialOf (Value.ref it) (Str.ofString "__length_hint__") >>= _) _ _ _
  refine wpAny_bind (wpAny_specialOf hT RT.hint_lri ?_)
  generalize hid : ("list_reverseiterator.__length_hint__" : String) = id0
  wp_delta
  rw [show splitId id0 = some ("list_reverseiterator", "__length_hint__") from by subst hid; decide +kernel]
  subst hid
  refine wpAny_bind (wpAny_isInstance (b := true) hT (by rw [isSubtype_type]; kernel_rfl) ?_)
  refine wpAny_pure ?_
  rw [if_neg (by decide)]
  have e0 : ((items.size : Nat) : Int) - 1 - ((0 : Nat) : Int) = (items.size : Int) - 1 := by omega
  refine wpAny_pure ⟨plainId_quiet F.plain_extend_loop _, codeAny_extend_loopS W hn _ hSf _ items.size 0 _ _ _ rfl (Nat.zero_le _) ⟨Nat.zero_le _, by rw [e0]; exact hit, hl⟩ hS (ItemsOf.nil _) fun s' acc' c' hm hS' hacc => ?_⟩
  rw [Moved.eq_with hm]
  refine hR s'.heap s'.toks acc' c' (fun b o h1 h2 e => hm.heap b o (fun hmem => ?_) e) hS' hacc
  rcases List.mem_cons.mp hmem with e' | hmem
  · exact h2 e'
  · exact h1 (List.mem_singleton.mp hmem)
theorem call_list_rev {it l : Addr} {items : Array Value} {Q : Value → Shared → Prop} (hh : A.handled = none) (hit : s.heap.IsRevIter it l ((items.size : Int) - 1)) (hl : s.heap.IsList l items) (hne : l ≠ it) (hn : items.size ≤ sizeLine)
    (hQ : ∀ (h' : Heap) (tk : Nat) (acc : Array Value) (c' : Nat), (∀ b o, b ≠ it → s.heap.get? b = some o → h'.get? b = some o) → h'.get? s.heap.objs.size = some { cls := .type "list", dict := none, data := .seq acc c', slots := #[] } →
      ItemsOf (fun i v => items[items.size - 1 - i]? = some v) acc items.size → Q (.ref s.heap.objs.size) { s with heap := h', toks := tk }) :
    wpAny (model prog w) A (call (.type "list") [.ref it]) Q E s := by
  obtain ⟨oi, hoi, _⟩ := id hit
  obtain ⟨ol, hol, _⟩ := id hl
  have hSi : s.heap.objs.size ≠ it := Nat.ne_of_gt (Heap.lt_size hoi)
  have hSl : s.heap.objs.size ≠ l := Nat.ne_of_gt (Heap.lt_size hol)
  refine callType_codes (Q₁ := fun obj s₁ => obj = .ref s.heap.objs.size ∧ s₁ = { s with heap := s.heap.push { cls := .type "list", data := .seq #[] } }) F.called_list (F.typeCall_list_1 _) F.entry_list_init
    (code_list_new _ ⟨rfl, rfl⟩) fun obj s₁ h₁ => ?_
  obtain ⟨rfl, rfl⟩ := h₁
  have hS : (s.heap.push { cls := .type "list", data := .seq #[] }).get? s.heap.objs.size = some { cls := .type "list", data := .seq #[] } := Heap.get?_push_size _ rfl
  refine ⟨⟨_, hS, rfl⟩, F.args_list_init_2 _ _, ?_⟩
  have hit1 : (s.heap.push { cls := .type "list", data := .seq #[] }).IsRevIter it l ((items.size : Int) - 1) := hit.at fun o e => Heap.get?_push_of_some _ e
  have hl1 : (s.heap.push { cls := .type "list", data := .seq #[] }).IsList l items := hl.push _
  show wpAny _ A.in1.in1 (do let old ← Builtin.List.listItems (.ref s.heap.objs.size); Builtin.List.listUpdate (.ref s.heap.objs.size) (fun _ => #[]); letGo old.toList.reverse; Builtin.List.listExtendWith (.ref s.heap.objs.size) (.ref it) .none) _ _ _
  refine wpAny_bind ?_
  unfold Builtin.List.listItems
  refine wpAny_bind (wpAny_seqItems hS rfl (wpAny_pure ?_))
  show wpAny _ _ (updateSeq s.heap.objs.size (fun _ => #[]) >>= fun _ => letGo (#[] : Array Value).toList.reverse >>= fun _ => Builtin.List.listExtendWith (.ref s.heap.objs.size) (.ref it) .none) _ _ _
  refine wpAny_bind (wpAny_updateSeq hS rfl ?_)
  have hS₂ := Heap.get?_update_self (Obj.mapSeq (fun _ => (#[] : Array Value))) hS rfl
  have oth : ∀ b o, b ≠ s.heap.objs.size → (s.heap.push { cls := .type "list", data := .seq #[] }).get? b = some o → ((s.heap.push { cls := .type "list", data := .seq #[] }).update s.heap.objs.size (Obj.mapSeq (fun _ => (#[] : Array Value)))).get? b = some o :=
    fun b o hb e => (Heap.get?_update_other _ _ (Ne.symm hb)).trans e
  refine wpAny_bind (wpAny_letGo ?_)
  have hit2 : ((s.heap.push { cls := .type "list", data := .seq #[] }).update s.heap.objs.size (Obj.mapSeq (fun _ => (#[] : Array Value)))).IsRevIter it l ((items.size : Int) - 1) := hit1.at fun o e => oth it o hSi.symm e
  have hl2 : ((s.heap.push { cls := .type "list", data := .seq #[] }).update s.heap.objs.size (Obj.mapSeq (fun _ => (#[] : Array Value)))).IsList l items := by
    obtain ⟨o, e, r⟩ := hl1
    exact ⟨o, oth l o hSl.symm e, r⟩
  refine extend_rev (A := A.in1) hh hit2 hl2 hn hSi hSl hne hS₂ fun h' tk acc' c' hk hS' hacc => ?_
  exact ⟨rfl, hQ h' tk acc' c' (fun b o hb e => hk b o hb (Nat.ne_of_lt (Heap.lt_size e)) (oth b o (Nat.ne_of_lt (Heap.lt_size e)) (Heap.get?_push_of_some _ e))) hS' hacc⟩
end
section
variable {X : Cx}
def tLstRev (K : PySem.W.Frag) (te : TE) : TE := fun σ H Q => te σ H fun v H1 => ∃ (a : Addr) (xs : List V), v = .ref a ∧ SqL K H1 a xs ∧ ∀ q, H1 q = none → Q (.ref q) (upd H1 q (.lst xs.reverse))
theorem pe_lstRev {e : Expr} {te : TE} {p p2 pos pos2 : Pos} (hc : X.calm = true) (hg : Gl X "list") (hm : X.mg "list" = none) (hg2 : Gl X "reversed") (hm2 : X.mg "reversed" = none) (he : PE X e te)
    (hs : starEach [e] X.env = (false, eval e X.env) :: starEach [] X.env := by rfl)
    (hs2 : starEach [.Call (.Name "reversed" p2) [e] [] pos2] X.env = (false, eval (.Call (.Name "reversed" p2) [e] [] pos2) X.env) :: starEach [] X.env := by rfl) :
    PE X (.Call (.Name "list" p) [.Call (.Name "reversed" p2) [e] [] pos2] [] pos) (tLstRev X.K te) := by
  refine ⟨fun pins s σ H Q I h => ?_⟩
  refine Call_ (ld_blt I hg hm boot_list (PyProof.Rows.callWith_type1 (args_cons (Call_ (ld_blt I hg2 hm2 PyProof.Rows.boot_reversed (PyProof.Rows.callWith_type1 (args_cons (thn (he.run pins s σ H _ I h) fun u s1 ⟨v, H1, I1, r1, q1⟩ => args_nil ?_) hs) hs rfl))) hs2) hs2 rfl))
  obtain ⟨a, xs, ev, hq, q⟩ := q1
  subst ev
  obtain rfl : u = Value.ref a := r1
  obtain ⟨its, rv, p', hz⟩ := I1.list hq
  refine call_reversed_list p'.isList (args_nil ?_)
  have k0 : ∀ b o, s1.heap.get? b = some o → (s1.heap.push (revObj a ((its.toArray.size : Int) - 1))).get? b = some o := fun b o e => Heap.get?_push_of_some _ e
  have I2 : Inv X pins σ H1 { s1 with heap := s1.heap.push (revObj a ((its.toArray.size : Int) - 1)) } := I1.kept (t' := s1.toks) k0
  obtain ⟨f0, f1, f2, f3, f4, f5⟩ := I1.fpOk (H' := H1) (b := s1.heap.objs.size) (Nat.le_refl _) (I1.hok.fresh (Nat.le_refl _))
  have hl := p'.isList
  obtain ⟨ol, hol, _⟩ := id hl
  have hne : a ≠ s1.heap.objs.size := Nat.ne_of_lt (Heap.lt_size hol)
  have hn : its.toArray.size ≤ sizeLine := by rw [List.size_toArray, ← rv.length]; exact hz
  refine call_list_rev (s := { s1 with heap := s1.heap.push (revObj a ((its.toArray.size : Int) - 1)) }) (I1.ok.hd hc) ⟨_, Heap.get?_push_size _ rfl, rfl, rfl⟩ (hl.push _) hne hn fun h' tk acc c' hk hS' hi => ?_
  have hfr : H1 (s1.heap.push (revObj a ((its.toArray.size : Int) - 1))).objs.size = none := I2.hok.fresh (Nat.le_refl _)
  refine ⟨.ref (s1.heap.push (revObj a ((its.toArray.size : Int) - 1))).objs.size, upd H1 (s1.heap.push (revObj a ((its.toArray.size : Int) - 1))).objs.size (.lst xs.reverse), I2.turnedNew (t' := tk) (ch := [s1.heap.objs.size]) (fun b o hb e => hk b o (by simpa using hb) e) (fun b hb => ?_) (Nat.le_refl _) ⟨by rw [List.length_reverse]; exact hz, acc.toList, c', RT.vals_rev rv hi, ?_⟩, rfl, q _ hfr⟩
  · rw [List.mem_singleton.mp hb]
    exact ⟨f0, f1, f2, f3, f4, f5⟩
  · rw [Array.toArray_toList]
    exact hS'
end
variable [TabCfg]
section
variable {X : Cx} {W : WX} {o e : Expr} {es : List Expr} {m mo : Mx} {ma : Ma} {pos p p2 pos2 apos : Pos}
/-! ### list(reversed(xs)) -/
def lstRev (d : D) (S : Sto) : R D := match d with
  | .ref n => match lstAt S n with
    | some xs => .ok (.ref S.length) (S ++ [.lst xs.reverse])
    | none => .stuck
  | _ => .stuck
def mLstRev (m : Mx) : Mx := fun ρ S => (m ρ S).bind lstRev
theorem Vds.rev {K : PySem.W.Frag} {mg : Str → Option Value} {β : List Addr} {H : Hp} : ∀ {vs : List V} {ds : List D}, Vds K mg β H vs ds → Vds K mg β H vs.reverse ds.reverse
  | _, _, .nil => .nil
  | _, _, .cons h t => by
    rw [List.reverse_cons, List.reverse_cons]
    exact Vds.append (Vds.rev t) (.cons h .nil)
theorem me_lstRev (hc : X.calm = true) (hm : X.mg "list" = none) (hm2 : X.mg "reversed" = none) (h : ME X W e m) (hg : Gl X "list" := by rfl) (hg2 : Gl X "reversed" := by rfl)
    (hs : starEach [e] X.env = (false, eval e X.env) :: starEach [] X.env := by rfl)
    (hs2 : starEach [.Call (.Name "reversed" p2) [e] [] pos2] X.env = (false, eval (.Call (.Name "reversed" p2) [e] [] pos2) X.env) :: starEach [] X.env := by rfl) :
    ME X W (.Call (.Name "list" p) [.Call (.Name "reversed" p2) [e] [] pos2] [] pos) (mLstRev m) := by
  refine ⟨PE.weak (pe_lstRev hc hg hm hg2 hm2 h.pe hs hs2) fun σ H Q ⟨β, S, ρ, rl, en, q⟩ => ⟨β, S, ρ, rl, en, (Po.bind q).mono fun d β1 S1 H1 x1 r1 q1 v hv => ?_⟩⟩
  unfold lstRev at q1
  cases d with
  | ref n =>
    obtain ⟨a, rfl, h1⟩ := hv.ref_inv
    dsimp only at q1
    cases q2 : lstAt S1 n with
    | none => rw [q2] at q1; exact q1.elim
    | some xs =>
      rw [q2] at q1
      obtain ⟨vs, h2, h3⟩ := lst_read r1 h1 q2
      refine ⟨a, vs, rfl, h2, fun l hl => ?_⟩
      obtain ⟨xn, rn, vn⟩ := r1.newL h3.rev hl
      exact q1 _ _ xn rn _ vn
  | _ => exact q1.elim
/-! ### xs.pop() -/
def fPop : FM
  | .ref n, [], S => match S[n]? with
    | some (.lst xs) => match xs[xs.length - 1]? with
      | some d => some (d, S.set n (.lst xs.dropLast))
      | none => none
    | _ => none
  | _, _, _ => none
theorem Vds.dropLast {K : PySem.W.Frag} {mg : Str → Option Value} {β : List Addr} {H : Hp} : ∀ {vs : List V} {ds : List D}, Vds K mg β H vs ds → Vds K mg β H vs.dropLast ds.dropLast
  | _, _, .nil => .nil
  | _, _, .cons h .nil => .nil
  | _, _, .cons h (.cons h2 t) => .cons h (Vds.dropLast (.cons h2 t))
theorem o_pop : OpM X "list" ckL rPop fPop := by
  refine ⟨fun β H S o v r h e => ckL_ok r h e, ?_⟩
  intro β H S o v xs vs d S' Q r ho hv e k
  match o, xs, e, ho, hv with
  | .ref n, [], e, ho, hv =>
    obtain ⟨a, rfl, h1⟩ := ho.ref_inv
    cases hv
    unfold fPop at e
    dsimp only at e
    split at e
    · rename_i ds q
      split at e
      · rename_i y hy
        cases e
        obtain ⟨us, h3, h4⟩ := r.lst_at h1 q
        obtain ⟨z, g1, g2⟩ := h4.get hy
        refine ⟨a, us, z, rfl, rfl, h3, by rw [h4.length]; exact g1, ?_⟩
        obtain ⟨r', x'⟩ := r.write (o := .lst us.dropLast) (b' := .lst ds.dropLast) h1 q rfl rfl fun x => ⟨_, upd_same, h4.dropLast.ext x⟩
        exact k β _ _ x' r' (g2.ext x')
      · cases e
    · cases e
theorem me_lpop (ho : ME X W o mo) (hbase : attributeBase o "pop" X.env (eval o X.env) = eval o X.env := by rfl) (hline : (apos.endLine == pos.line) = true := by rfl) : ME X W (.Call (.Attribute o "pop" apos) [] [] pos) (mBM ckL fPop mo mNil) :=
  me_bm0 PySem.F.plainAttrs_list PySem.F.slot_list_pop PySem.F.type_list_pop mt_pop o_pop ho hbase hline
/-! ### o.f(..), f a field that holds a function -/
noncomputable def mCallF (tab : VTab) (f : Str) (mo : Mx) (ma : Ma) : Mx := fun ρ S => (mo ρ S).bind fun o S1 => (fldD f o S1).bind fun g S2 => if isFn g S2 = true then (ma ρ S2).bind fun ds S3 => callV tab g ds S3 else .stuck
theorem fld_of {β : List Addr} {H : Hp} {S S' : Sto} {od d : D} {v : V} {f : Str} (r : Rl X.K X.mg β H S) (hv : Vd X.K X.mg β H v od) (e : fldD f od S = .ok d S') :
    S' = S ∧ ∃ a Ca dx xs u, v = .ref a ∧ H a = some (.ins Ca dx xs) ∧ Cls X.K Ca ∧ NoAttr X.K Ca f ∧ xs.lookup f = some u ∧ Vd X.K X.mg β H u d := by
  unfold fldD at e
  cases od with
  | ref n =>
    obtain ⟨a, rfl, h1⟩ := hv.ref_inv
    dsimp only at e
    cases e1 : S[n]? with
    | none => rw [e1] at e; cases e
    | some ob =>
      rw [e1] at e
      cases ob with
      | ins C fs =>
        dsimp only at e
        cases e2 : fs.lookup f with
        | none => rw [e2] at e; cases e
        | some d' =>
          rw [e2] at e
          cases e
          obtain ⟨Ca, dx, xs, g1, g2, g3, g4, g5⟩ := ins_of r h1 e1
          obtain ⟨w, g6, g7⟩ := g3.look e2
          obtain ⟨pp, g8, g9⟩ := mem_of_look e2
          exact ⟨rfl, a, Ca, dx, xs, w, rfl, g2, g4, by rw [← g9]; exact g5 pp g8, g6, g7⟩
      | _ => cases e
  | _ => cases e
theorem me_callf {pl : Sem Bool} {j n : Nat} {tab : VTab} {f : Str} (t : VOk X j n tab) (hr : Room j X.A) (ho : ME X W o mo) (tk : Takes X W) (ha : MA X W (e :: es) ma) (hl : ∀ β H vs ds ρ S S', Vds X.K X.mg β H vs ds → ma ρ S = .ok ds S' → vs.length = n)
    (he : starEach (e :: es) X.env = (false, eval e X.env) :: starEach es X.env := by rfl) (hpl : (backTo pos (starEach es X.env)).any (·.1) = false := by rfl)
    (ht : eval (.Call (.Attribute o f apos) (e :: es) [] pos) X.env = ((eval o X.env).bind fun ov => (standAt apos.atName).bind fun _ => (holding [ov] (getMethod ov f pl)).bind fun q => callWith pos q.1 q.2 (backTo pos (starEach (e :: es) X.env)) (backToKw pos (keywordEach [] X.env))) := by rfl) :
    ME X W (.Call (.Attribute o f apos) (e :: es) [] pos) (mCallF tab f mo ma) := by
  refine ⟨⟨fun pins s σ H Q I ⟨β, S, ρ, rl, en, q⟩ => ?_⟩⟩
  have q := (show Po X.K X.mg W σ β H ((mo ρ S).bind fun o S1 => (fldD f o S1).bind fun g S2 => if isFn g S2 = true then (ma ρ S2).bind fun ds S3 => callV tab g ds S3 else .stuck) _ from q).bind
  have step : tM X.K X.mg W mo σ H fun x H1 => ∃ β1 S1 od gd, Rl X.K X.mg β1 H1 S1 ∧ En X.K X.mg β1 H1 ρ σ ∧ Vd X.K X.mg β1 H1 x od ∧ fldD f od S1 = .ok gd S1 ∧ isFn gd S1 = true ∧ Po X.K X.mg W σ β1 H1 ((ma ρ S1).bind fun ds S2 => callV tab gd ds S2) fun d β' _ H' => ∀ v, Vd X.K X.mg β' H' v d → Q v H' := by
    refine ⟨β, S, ρ, rl, en, q.mono fun od β1 S1 H1 x1 r1 q1 v hv => ?_⟩
    cases e1 : fldD f od S1 with
    | ok gd S2 =>
      rw [e1] at q1
      obtain ⟨rfl, _⟩ := fld_of r1 hv e1
      have q1 : Po X.K X.mg W σ β1 H1 (if isFn gd S2 = true then (ma ρ S2).bind fun ds S3 => callV tab gd ds S3 else .stuck) _ := q1
      split at q1
      · rename_i hf
        exact ⟨β1, S2, od, gd, r1, en.ext x1, hv, e1, hf, q1⟩
      · exact q1.elim
    | ex z S2 =>
      unfold fldD at e1
      split at e1
      · split at e1
        · split at e1 <;> cases e1
        · cases e1
      · cases e1
    | stuck => rw [e1] at q1; exact q1.elim
  refine PySem.W.methodCall_KW (pl := pl) (thn (ho.pe.run pins s σ H _ I step) fun u s1 ⟨x, H1, I1, rx, β1, S1, od, gd, r1, en1, hv, e1, hf, q1⟩ => ?_) ht
  obtain ⟨_, a, Ca, dx, xs, gv, ex, ea, cl, na, lk, hg⟩ := fld_of r1 hv e1
  subst ex
  obtain rfl : u = Value.ref a := rx
  obtain ⟨mA, O, _, _, _, _⟩ := ins_get I1.hok ea
  obtain ⟨od', J, _⟩ := O.look
  obtain ⟨fa, U, cl', c, rfl, g1⟩ := fn_ref r1 hg hf
  refine PySem.W.method_usual (r := none) I1.kIn J (PySem.W.plainGet_of (cl.get f)).1 (PySem.W.plainGet_of (cl.get f)).2 na rfl (getattr_ok I1 ea cl na lk fun u' s2 I2 ru => ?_)
  obtain rfl : u' = Value.ref fa := ru
  have q2 := q1.bind
  have step2 : tMA X.K X.mg W ma σ H1 fun vs H2 => vs.length = n ∧ ∃ β2 S2 ds, Rl X.K X.mg β2 H2 S2 ∧ Vds X.K X.mg β2 H2 vs ds ∧ Xt X.K β1 H1 β2 H2 ∧ Po X.K X.mg W σ β2 H2 (callV tab gd ds S2) fun d β' _ H' => ∀ v, Vd X.K X.mg β' H' v d → Q v H' := by
    refine ⟨β1, S1, ρ, r1, en1, ?_⟩
    cases e2 : ma ρ S1 with
    | ok ds S2 =>
      rw [e2] at q2
      exact fun β2 H2 x2 r2 vs hvs => ⟨hl β2 H2 vs ds ρ S1 S2 hvs e2, β2, S2, ds, r2, hvs, x2, q2 β2 H2 x2 r2⟩
    | ex z S2 => rw [e2] at q2; exact q2
    | stuck => rw [e2] at q2; exact q2
  refine PySem.W.callWith_F (first := []) (fnq_fnAt I2.hok g1) (thn (ha.pa.run pos pins s2 σ H1 _ I2 step2) fun us s3 ⟨vs, H2, I3, r, hn, β2, S2, ds, r2, hvs, x2, q3⟩ => ⟨fnq_fnAt I3.hok (x2.fnq _ _ _ _ g1), ?_⟩) he hpl
  exact callV_run t hr tk I3 r2 (hg.ext x2) r hvs hn q3
end
/-! ### a def that calls itself: nothing is promised at first -/
theorem fn_stuck {P : Program} {w : World} {K : PySem.W.Frag} {mg : Str → Option Value} {base : Heap} {k n : Nat} {f : Addr} {fd : FuncData} {ps : List Str} (hn : ps.length = n := by rfl) : FnOk P w K mg base (L2.CX P w) k f fd ps (spM K mg n fun _ _ => .stuck) :=
  ⟨fun vs H Q E h => h.1.trans hn.symm, fun A outer s H args us vs Q E hr he hb hv h => by
    obtain ⟨_, β, S, ds, _, _, q⟩ := h
    exact q.elim⟩
/-! ### simp rows -/
section
variable {ρ : Env'} {S : Sto} {m mo : Mx} {ma : Ma} {f : Str} {tab : VTab} {n : Nat}
@[simp] theorem ev_lstRev : mLstRev m ρ S = (m ρ S).bind lstRev := rfl
@[simp] theorem lstRev_ref : lstRev (.ref n) S = match lstAt S n with
    | some xs => .ok (.ref S.length) (S ++ [.lst xs.reverse])
    | none => .stuck := rfl
@[simp] theorem fPop_ev : fPop (.ref n) [] S = match S[n]? with
    | some (.lst xs) => match xs[xs.length - 1]? with
      | some d => some (d, S.set n (.lst xs.dropLast))
      | none => none
    | _ => none := rfl
@[simp] theorem ev_callf : mCallF tab f mo ma ρ S = (mo ρ S).bind fun o S1 => (fldD f o S1).bind fun g S2 => if isFn g S2 = true then (ma ρ S2).bind fun ds S3 => callV tab g ds S3 else .stuck := rfl
end
end Eng

set_option maxHeartbeats 2000000
/-! The engine, part 34: what is never reached; range with a step. -/
namespace Eng
open PySem PySem.Spec PyProof.Rows L2
variable [TabCfg]
section
variable {X : Cx} {W : WX}
/-- nothing is promised of it -/
def sNever : Ms := fun _ _ => .stuck
def mNever : Mx := fun _ _ => .stuck
theorem ms_never {s : Stmt} : MS X W s sNever := ⟨⟨fun pins s σ H D I ⟨β, S, ρ, rl, en, q⟩ => (show False from q).elim⟩⟩
theorem me_never {e : Expr} : ME X W e mNever := ⟨⟨fun pins s σ H Q I ⟨β, S, ρ, rl, en, q⟩ => (show False from q).elim⟩⟩
/-! ### range with a step -/
def itC (lo c : Int) (n : Nat) : ItD := ⟨n, fun i _ => some (.int (lo + (i : Nat) * c)), fun _ => true⟩
theorem itC_ok {K : PySem.W.Frag} {mg : Str → Option Value} {β : List Addr} {H : Hp} {lo c : Int} {n : Nat} : ItOk K mg β H (Itc lo c n) (itC lo c n) := by
  intro β' H' S' x r
  refine ⟨fun i d hi hd => ⟨hi, fun y H'' hy => ?_⟩, fun _ => Nat.le_refl _⟩
  obtain ⟨rfl, rfl⟩ := hy
  cases hd
  exact ⟨.refl, r, .int _⟩
noncomputable def rg3 (ds : List D) (S : Sto) : R ItD := match ds with
  | [.int a, .int b, .int c] => if (decide (c ≠ 0) && decide (c.natAbs < 1073741824) && Builtin.Range.small a b c && decide (0 ≤ Builtin.Range.rangeSize a b c)) = true then .ok (itC a c (Builtin.Range.rangeSize a b c).toNat) S else .stuck
  | _ => .stuck
noncomputable def mRange3 (m : Ma) : Mi := fun ρ S => (m ρ S).bind rg3
theorem mi_range3 {tg a b c : Expr} {ma mb mc : Mx} {p pos : Pos} (hm : X.mg "range" = none) (h1 : ME X W a ma) (h2 : ME X W b mb) (h3 : ME X W c mc) (hg : Gl X "range" := by rfl) (hs : starEach [a, b, c] X.env = (false, eval a X.env) :: starEach [b, c] X.env := by rfl)
    (hs2 : starEach [b, c] X.env = (false, eval b X.env) :: starEach [c] X.env := by rfl) (hs3 : starEach [c] X.env = [(false, eval c X.env)] := by rfl) (hpl : (backTo pos (starEach [b, c] X.env)).any (·.1) = false := by rfl) :
    MI X W tg (.Call (.Name "range" p) [a, b, c] [] pos) (mRange3 (mCons ma (mCons mb (mCons mc mNil)))) := by
  have hA : MA X W [a, b, c] (mCons ma (mCons mb (mCons mc mNil))) := ma_cons h1 (ma_cons h2 (ma_cons h3 ma_nil hs3) hs2) hs
  refine ⟨PI.weak (pi_range3 hg hm hA.pa hs hpl) fun σ H Q ⟨β, S, ρ, rl, en, q⟩ => ⟨β, S, ρ, rl, en, (Po.bind q).mono fun ds β1 S1 H1 x1 r1 q1 vs hv => ?_⟩⟩
  unfold rg3 at q1
  split at q1
  · rename_i i j k
    obtain ⟨v1, v2, v3, rfl, w1, w2, w3⟩ := hv.three
    cases w1
    cases w2
    cases w3
    split at q1
    · rename_i h
      simp only [Bool.and_eq_true, decide_eq_true_eq] at h
      exact ⟨i, j, k, _, rfl, ⟨h.1.1.1, h.1.1.2, h.1.2, by have := h.2; omega⟩, q1 β1 H1 .refl r1 _ itC_ok⟩
    · exact q1.elim
  · exact q1.elim
@[simp] theorem ev_range3 {ρ : Env'} {S : Sto} {m : Ma} : mRange3 m ρ S = (m ρ S).bind rg3 := rfl
theorem rg3_ev {a b c : Int} {n : Nat} {S : Sto} (h : (decide (c ≠ 0) && decide (c.natAbs < 1073741824) && Builtin.Range.small a b c && decide (0 ≤ Builtin.Range.rangeSize a b c)) = true) (hn : (Builtin.Range.rangeSize a b c).toNat = n) : rg3 [.int a, .int b, .int c] S = .ok (itC a c n) S := by
  unfold rg3
  dsimp only
  rw [if_pos h, hn]
end
end Eng

set_option maxHeartbeats 2000000
/-! The engine, part 35: zip(reversed(a list), reversed(a tuple)), of one length. -/
namespace Eng
open PySem PySem.Spec PyProof.Rows L2
section
variable {prog : Program} {w : World} {A : Around} {E : Value → Shared → Prop} {s : Shared}
theorem nextOf_lri_item {it l : Addr} {i : Nat} {items : Array Value} {x : Value} {Q : Value → Shared → Prop} (hit : s.heap.IsRevIter it l (i : Int)) (hl : s.heap.IsList l items) (hx : items[i]? = some x)
    (hQ : ∀ h', h'.IsRevIter it l ((i : Int) - 1) → Heap.SameBut it s.heap h' → Q x { s with heap := h' }) : wpAny (model prog w) A (Builtin.SmallTypes.nextOf (.ref it)) Q E s := by
  obtain ⟨o, ho, hc, hd⟩ := id hit
  obtain ⟨ol, hol, _, nl, hdl⟩ := hl
  unfold Builtin.SmallTypes.nextOf
  refine wpAny_bind (wpAny_callSpecial?_slot (name := Str.ofString "__next__") hit.typeIs F.slot_lri_next
    (wpAny_call_entry F.slot_lri_next hit.typeIs F.entry_lri_next ?_ (F.args_lri_next_1 _)))
  unfold Builtin.«list_reverseiterator.__next__»
  refine wpAny_bind (wpAny_of_eq (a := (Value.ref it, [])) rfl ?_)
  try dsimp only
  refine wpAny_bind (wpAny_field ho hd (x := rawInt (i : Int)) rfl ?_)
  show wpAny _ _ (if (i : Int) < 0 then _ else _) _ _ s
  rw [if_neg (by omega)]
  show wpAny _ _ (field (.ref it) 0 >>= _) _ _ s
  refine wpAny_bind (wpAny_field ho hd (x := .ref l) rfl ?_)
  show wpAny _ _ (seqItems? (.ref l) >>= _) _ _ s
  refine wpAny_bind (wpAny_seqItems hol hdl ?_)
  simp only [Int.toNat_natCast, hx]
  refine wpAny_bind (wpAny_setField ho hd (by simp) ?_)
  first
  | refine wpAny_pure ⟨x, rfl, wpAny_pure (hQ _ ?_ (Heap.SameBut.update ..))⟩
  | refine wpAny_bind (wpAny_pure (wpAny_pure ⟨x, rfl, wpAny_pure (hQ _ ?_ (Heap.SameBut.update ..))⟩))
  exact ⟨_, Heap.get?_update_self _ ho (Obj.isFreed_of_fields (Obj.data_mapFields hd _)), (Obj.cls_mapFields ..).trans hc, by
    rw [Obj.data_mapFields hd]; simp⟩
theorem nextOf_lri_end {it l : Addr} {Q : Value → Shared → Prop} (hh : A.handled = none) (hit : s.heap.IsRevIter it l (-1))
    (hE : ∀ h' e, Heap.ExtBut it s.heap h' → (∃ o, h'.get? e = some o ∧ o.cls = .type "StopIteration") → E (.ref e) { s with heap := h' }) :
    wpAny (model prog w) A (Builtin.SmallTypes.nextOf (.ref it)) Q E s := by
  obtain ⟨o, ho, hc, hd⟩ := id hit
  unfold Builtin.SmallTypes.nextOf
  refine wpAny_bind (wpAny_callSpecial?_slot (name := Str.ofString "__next__") hit.typeIs F.slot_lri_next
    (wpAny_call_entry F.slot_lri_next hit.typeIs F.entry_lri_next ?_ (F.args_lri_next_1 _)))
  unfold Builtin.«list_reverseiterator.__next__»
  refine wpAny_bind (wpAny_of_eq (a := (Value.ref it, [])) rfl ?_)
  try dsimp only
  refine wpAny_bind (wpAny_field ho hd (x := rawInt (-1)) rfl ?_)
  show wpAny _ _ (if (-1 : Int) < 0 then _ else _) _ _ s
  rw [if_pos (by decide)]
  refine wpAny_bind (wpAny_rule ?_)
  first
  | show wpAny _ _ (newExc (.type "StopIteration") [] >>= _) _ _ _
  | (refine wpAny_bind ?_; show wpAny _ _ (newExc (.type "StopIteration") [] >>= _) _ _ _)
  refine wpAny_bind ?_
  simp only [newExc, newTuple]
  refine wpAny_bind (wpAny_newObj_type ?_ (by size_fits))
  refine wpAny_bind (m := firstArgMember _ _) (wpAny_of_eq (a := Value.none) (by first | rfl | (simp only [firstArgMember]; rfl)) ?_)
  refine wpAny_newObj_type ?_ (by size_fits)
  simp only [raiseNew]
  refine wpAny_bind (wpAny_handled ?_)
  first | rw [show A.in1.handled = none from hh] | rw [hh]
  refine wpAny_bind (wpAny_pure (wpAny_throw ?_))
  exact hE _ _ (((Heap.ExtBut.refl _ _).push _).push _) ⟨_, Heap.get?_push_size _ rfl, rfl⟩
theorem nextOf_rt_item {it t : Addr} {i : Nat} {items : Array Value} {x : Value} {Q : Value → Shared → Prop} (hit : RT.IsRt s.heap it t (i : Int)) (ht : IsTup s.heap t items) (hx : items[i]? = some x) (hsz : items.size ≤ sizeLine)
    (hQ : ∀ h', RT.IsRt h' it t ((i : Int) - 1) → Heap.SameBut it s.heap h' → Q x { s with heap := h', toks := s.toks + 1 }) : wpAny (model prog w) A (Builtin.SmallTypes.nextOf (.ref it)) Q E s := by
  obtain ⟨o, ho, hc, hd⟩ := id hit
  have hi : i < items.size := (Array.getElem?_eq_some_iff.mp hx).1
  have hT : s.TypeIs (.ref t) "tuple" := RT.IsTup.typeOf' ht
  rw [sizeLine_eq] at hsz
  unfold Builtin.SmallTypes.nextOf
  refine wpAny_bind (wpAny_callSpecial?_slot (name := Str.ofString "__next__") hit.typeIs RT.slot_rt_next
    (wpAny_call_entry RT.slot_rt_next hit.typeIs RT.entry_rt_next ?_ (RT.args_rt_next _)))
  unfold Builtin.«reversed.__next__»
  refine wpAny_bind (wpAny_of_eq (a := (Value.ref it, [])) rfl ?_)
  try dsimp only
  refine wpAny_bind (wpAny_field ho hd (x := .ref t) rfl ?_)
  try dsimp only
  refine wpAny_bind (wpAny_field ho hd (x := rawInt (i : Int)) rfl ?_)
  show wpAny _ _ (if (i : Int) < 0 then _ else _) _ _ s
  rw [if_neg (by omega)]
  try dsimp only
  refine wpAny_bind (wpAny_specialOf hT RT.get_tuple ?_)
  try dsimp only
  try rw [if_neg (by decide)]
  try dsimp only
  refine wpAny_bind (wpAny_mkInt ?_)
  refine wpAny_bind (wpAny_attempt ?_)
  have fin : seqIndex? (i : Int) items.size = some i := seqIndex_of (by omega) (by omega)
  refine PyProof.Rows.getItem_tuple (s := { s with toks := s.toks + 1 }) ht (by omega) (by omega) fin hx ?_
  try dsimp only
  refine wpAny_bind (wpAny_field (s := { s with toks := s.toks + 1 }) ho hd (x := rawInt (i : Int)) rfl ?_)
  try dsimp only
  refine wpAny_bind (wpAny_setField (s := { s with toks := s.toks + 1 }) ho hd (by simp) ?_)
  first
  | refine wpAny_pure ⟨x, rfl, wpAny_pure (hQ _ ?_ (Heap.SameBut.update ..))⟩
  | refine wpAny_bind (wpAny_pure (wpAny_pure ⟨x, rfl, wpAny_pure (hQ _ ?_ (Heap.SameBut.update ..))⟩))
  exact ⟨_, Heap.get?_update_self _ ho (Obj.isFreed_of_fields (Obj.data_mapFields hd _)), (Obj.cls_mapFields ..).trans hc, by
    rw [Obj.data_mapFields hd]; simp⟩
open RZ in
theorem zipR_next_item {z TI TO i1 i2 l1 l2 : Addr} {k : Nat} {xs ys : Array Value} {x y a b : Value} {Q : Value → Shared → Prop} (D : ZipApart z TI TO i1 i2 l1 l2)
    (hz : IsZip s.heap z TI TO .none) (hTI : IsPair s.heap TI (.ref i1) (.ref i2)) (hTO : IsPair s.heap TO a b)
    (h1 : s.heap.IsRevIter i1 l1 (k : Int)) (h2 : RT.IsRt s.heap i2 l2 (k : Int)) (hl1 : s.heap.IsList l1 xs) (hl2 : IsTup s.heap l2 ys) (hx : xs[k]? = some x) (hy : ys[k]? = some y) (hsz : ys.size ≤ sizeLine)
    (hQ : ∀ h' tk, IsZip h' z TI TO (rawInt s.heap.objs.size) → IsPair h' TO x y → h'.IsRevIter i1 l1 ((k : Int) - 1) → RT.IsRt h' i2 l2 ((k : Int) - 1) → IsPair h' s.heap.objs.size x y → h'.objs.size = s.heap.objs.size + 1 →
      (∀ c o, c ≠ z → c ≠ TO → c ≠ i1 → c ≠ i2 → s.heap.get? c = some o → h'.get? c = some o) → Q (.ref s.heap.objs.size) { s with heap := h', toks := tk }) :
    wpAny (model prog w) A (Builtin.«zip.__next__» ⟨[.ref z], []⟩) (fun fin s' => ∃ v, fin = .done (.ret v) ∧ Q v s') E s := by
  show wpAny _ _ (field (.ref z) 2 >>= _) _ _ _
  refine wpAny_bind (wpAny_field hz rfl (x := .bool false) rfl ?_)
  show wpAny _ _ (field (.ref z) 3 >>= _) _ _ _
  refine wpAny_bind (wpAny_field hz rfl (x := .ref TI) rfl ?_)
  refine wpAny_bind (wpAny_seqItems hTI rfl ?_)
  show wpAny _ _ (Builtin.SmallTypes.ownedTupleIsFree (.ref z) >>= _) _ _ _
  refine wpAny_bind ?_
  unfold Builtin.SmallTypes.ownedTupleIsFree
  refine wpAny_bind (wpAny_field hz rfl (x := .none) rfl (wpAny_pure ?_))
  simp only [if_true]
  refine wpAny_bind (wpAny_rule ?_)
  refine wpAny_bind (wpAny_field hz rfl (x := .ref TO) rfl ?_)
  refine wpAny_bind (wpAny_setField_rec hz (by simp) fun h₁ hz₁ hs₁ => ?_)
  replace hz₁ : IsZip h₁ z TI TO .ellipsis := hz₁
  refine wpAny_bind ?_
  simp only [List.zipIdx_cons, List.zipIdx_nil, List.forIn_cons, List.forIn_nil]
  refine wpAny_bind (wpAny_bind (wpAny_onRaise ?_))
  show wpAny _ _ (Builtin.SmallTypes.nextOf (.ref i1) >>= _) _ _ _
  have hl1' : Heap.IsList h₁ l1 xs := by
    obtain ⟨o, e, r⟩ := hl1
    exact ⟨o, hs₁.extBut _ _ D.l1z e, r⟩
  refine wpAny_bind (nextOf_lri_item (h1.at fun o e => hs₁.extBut _ _ D.i1z e) hl1' hx fun h₂ h1₂ hs₂ => wpAny_pure ?_)
  have hTO₂ : IsPair h₂ TO a b := hs₂.extBut _ _ D.TOi1 (hs₁.extBut _ _ D.TOz hTO)
  refine wpAny_bind (wpAny_seqItems hTO₂ rfl ?_)
  refine wpAny_bind (wpAny_updateSeq_pair hTO₂ fun h₃ hTO₃ hs₃ => ?_)
  replace hTO₃ : IsPair h₃ TO x b := hTO₃
  refine wpAny_bind (wpAny_letGo (wpAny_pure ?_))
  refine wpAny_bind (wpAny_bind (wpAny_onRaise ?_))
  show wpAny _ _ (Builtin.SmallTypes.nextOf (.ref i2) >>= _) _ _ _
  have up2 : ∀ c o, c ≠ z → c ≠ i1 → c ≠ TO → s.heap.get? c = some o → h₃.get? c = some o := fun c o c1 c2 c3 e => hs₃.extBut _ _ c3 (hs₂.extBut _ _ c2 (hs₁.extBut _ _ c1 e))
  have hl2' : IsTup h₃ l2 ys := by
    obtain ⟨o, e, r⟩ := hl2
    exact ⟨o, up2 _ _ D.l2z D.l2i1 D.l2TO e, r⟩
  refine wpAny_bind (nextOf_rt_item (s := { s with heap := h₃ }) (h2.at fun o e => up2 _ _ D.i2z D.i12.symm D.TOi2.symm e) hl2' hy hsz fun h₄ h2₄ hs₄ => wpAny_pure ?_)
  have hTO₄ : IsPair h₄ TO x b := hs₄.extBut _ _ D.TOi2 hTO₃
  refine wpAny_bind (wpAny_seqItems hTO₄ rfl ?_)
  refine wpAny_bind (wpAny_updateSeq_pair hTO₄ fun h₅ hTO₅ hs₅ => ?_)
  replace hTO₅ : IsPair h₅ TO x y := hTO₅
  refine wpAny_bind (wpAny_letGo (wpAny_pure (wpAny_pure ?_)))
  refine wpAny_bind (wpAny_seqItems hTO₅ rfl ?_)
  refine wpAny_bind (wpAny_newTuple ?_)
  have hsz : h₅.objs.size = s.heap.objs.size := by rw [hs₅.1, hs₄.1, hs₃.1, hs₂.1, hs₁.1]
  have hz₅ : IsZip h₅ z TI TO .ellipsis := hs₅.extBut _ _ D.TOz.symm (hs₄.extBut _ _ D.i2z.symm (hs₃.extBut _ _ D.TOz.symm (hs₂.extBut _ _ D.i1z.symm hz₁)))
  have hk₅ : ∀ c o, c ≠ z → c ≠ TO → c ≠ i1 → c ≠ i2 → s.heap.get? c = some o → h₅.get? c = some o := fun c o c1 c2 c3 c4 e =>
    hs₅.extBut _ _ c2 (hs₄.extBut _ _ c4 (hs₃.extBut _ _ c2 (hs₂.extBut _ _ c3 (hs₁.extBut _ _ c1 e))))
  have h1₅ : h₅.IsRevIter i1 l1 ((k : Int) - 1) := h1₂.at fun o e => hs₅.extBut _ _ D.TOi1.symm (hs₄.extBut _ _ D.i12 (hs₃.extBut _ _ D.TOi1.symm e))
  have h2₅ : RT.IsRt h₅ i2 l2 ((k : Int) - 1) := h2₄.at fun o e => hs₅.extBut _ _ D.TOi2.symm e
  have hzlt : z < h₅.objs.size := Heap.lt_size hz₅
  have hTOlt : TO < h₅.objs.size := Heap.lt_size hTO₅
  show wpAny _ _ (Builtin.SmallTypes.ownedTupleHandOut (.ref z) (.ref h₅.objs.size) >>= _) _ _ _
  refine wpAny_bind ?_
  unfold Builtin.SmallTypes.ownedTupleHandOut
  have hz₆ : IsZip (h₅.push { cls := .type "tuple", data := .seq #[x, y] }) z TI TO .ellipsis := Heap.get?_push_of_some _ hz₅
  refine wpAny_bind (wpAny_setField_rec hz₆ (by simp) fun h₇ hz₇ hs₇ => ?_)
  replace hz₇ : IsZip h₇ z TI TO (rawInt h₅.objs.size) := hz₇
  refine wpAny_setField_rec hz₇ (by simp) fun h₈ hz₈ hs₈ => ?_
  replace hz₈ : IsZip h₈ z TI TO (rawInt h₅.objs.size) := hz₈
  have up : ∀ c o, c ≠ z → h₅.get? c = some o → h₈.get? c = some o := fun c o c1 e => hs₈.extBut _ _ c1 (hs₇.extBut _ _ c1 (Heap.get?_push_of_some _ e))
  have hT₈ : IsPair h₈ h₅.objs.size x y := hs₈.extBut _ _ (Nat.ne_of_gt hzlt) (hs₇.extBut _ _ (Nat.ne_of_gt hzlt) (Heap.get?_push_size _ rfl))
  have hz8 : h₈.objs.size = h₅.objs.size + 1 := by rw [hs₈.1, hs₇.1, Heap.size_push]
  rw [hsz] at hz₈ hT₈ hz8
  refine wpAny_pure ⟨_, rfl, ?_⟩
  show Q (.ref h₅.objs.size) _
  rw [hsz]
  exact hQ h₈ _ hz₈ (up _ _ D.TOz hTO₅) (h1₅.at fun o e => up _ o D.i1z e) (h2₅.at fun o e => up _ o D.i2z e) hT₈ hz8 fun c o c1 c2 c3 c4 e => up c o c1 (hk₅ c o c1 c2 c3 c4 e)
theorem zipR_next_end {z TI TO i1 i2 l1 l2 : Addr} {a b : Value} {Q : Fin → Shared → Prop} (hh : A.handled = none) (D : ZipApart z TI TO i1 i2 l1 l2)
    (hz : IsZip s.heap z TI TO .none) (hTI : IsPair s.heap TI (.ref i1) (.ref i2)) (hTO : IsPair s.heap TO a b) (h1 : s.heap.IsRevIter i1 l1 (-1))
    (hE : ∀ h' e, (∀ c o, c ≠ z → c ≠ TO → c ≠ i1 → c ≠ i2 → s.heap.get? c = some o → h'.get? c = some o) → (∃ o, h'.get? e = some o ∧ o.cls = .type "StopIteration") → E (.ref e) { s with heap := h' }) :
    wpAny (model prog w) A (Builtin.«zip.__next__» ⟨[.ref z], []⟩) Q E s := by
  show wpAny _ _ (field (.ref z) 2 >>= _) _ _ _
  refine wpAny_bind (wpAny_field hz rfl (x := .bool false) rfl ?_)
  show wpAny _ _ (field (.ref z) 3 >>= _) _ _ _
  refine wpAny_bind (wpAny_field hz rfl (x := .ref TI) rfl ?_)
  refine wpAny_bind (wpAny_seqItems hTI rfl ?_)
  show wpAny _ _ (Builtin.SmallTypes.ownedTupleIsFree (.ref z) >>= _) _ _ _
  refine wpAny_bind ?_
  unfold Builtin.SmallTypes.ownedTupleIsFree
  refine wpAny_bind (wpAny_field hz rfl (x := .none) rfl (wpAny_pure ?_))
  simp only [if_true]
  refine wpAny_bind (wpAny_rule ?_)
  refine wpAny_bind (wpAny_field hz rfl (x := .ref TO) rfl ?_)
  refine wpAny_bind (wpAny_setField_rec hz (by simp) fun h₁ hz₁ hs₁ => ?_)
  replace hz₁ : IsZip h₁ z TI TO .ellipsis := hz₁
  refine wpAny_bind ?_
  simp only [List.zipIdx_cons, List.zipIdx_nil, List.forIn_cons, List.forIn_nil]
  refine wpAny_bind (wpAny_bind (wpAny_onRaise ?_))
  show wpAny _ _ (Builtin.SmallTypes.nextOf (.ref i1) >>= _) _ _ _
  refine wpAny_bind (nextOf_lri_end hh (h1.at fun o e => hs₁.extBut _ _ D.i1z e) fun h₂ e hs₂ he => ?_)
  obtain ⟨oe, hoe, hce⟩ := he
  have hz₂ : IsZip h₂ z TI TO .ellipsis := hs₂ _ _ D.i1z.symm hz₁
  have hez : e ≠ z := fun x => by subst x; rw [hz₂] at hoe; cases hoe; simp at hce
  refine wpAny_setField_rec hz₂ (by simp) fun h₃ _ hs₃ => hE h₃ e (fun c o c1 _ c3 _ x => hs₃.extBut _ _ c1 (hs₂ _ _ c3 (hs₁.extBut _ _ c1 x))) ⟨oe, hs₃.extBut _ _ hez hoe, hce⟩
theorem pyNext_zipR_item {z TI TO i1 i2 l1 l2 : Addr} {k : Nat} {xs ys : Array Value} {x y a b : Value} {Q : Option Value → Shared → Prop} (D : ZipApart z TI TO i1 i2 l1 l2)
    (hz : IsZip s.heap z TI TO .none) (hTI : IsPair s.heap TI (.ref i1) (.ref i2)) (hTO : IsPair s.heap TO a b)
    (h1 : s.heap.IsRevIter i1 l1 (k : Int)) (h2 : RT.IsRt s.heap i2 l2 (k : Int)) (hl1 : s.heap.IsList l1 xs) (hl2 : IsTup s.heap l2 ys) (hx : xs[k]? = some x) (hy : ys[k]? = some y) (hsz : ys.size ≤ sizeLine)
    (hQ : ∀ h' tk, IsZip h' z TI TO (rawInt s.heap.objs.size) → IsPair h' TO x y → h'.IsRevIter i1 l1 ((k : Int) - 1) → RT.IsRt h' i2 l2 ((k : Int) - 1) → IsPair h' s.heap.objs.size x y → h'.objs.size = s.heap.objs.size + 1 →
      (∀ c o, c ≠ z → c ≠ TO → c ≠ i1 → c ≠ i2 → s.heap.get? c = some o → h'.get? c = some o) → Q (some (.ref s.heap.objs.size)) { s with heap := h', toks := tk }) :
    wpAny (model prog w) A (pyNext (.ref z)) Q E s := by
  have hT : s.TypeIs (.ref z) "zip" := ⟨_, hz, rfl⟩
  unfold pyNext
  exact wpAny_bind (wpAny_attempt (wpAny_callSpecial?_slot (name := Str.ofString "__next__") hT F.slot_zip_next
    (wpAny_call_entry F.slot_zip_next hT F.entry_zip_next
      (zipR_next_item D hz hTI hTO h1 h2 hl1 hl2 hx hy hsz fun h' tk a1 a2 a3 a4 a5 a6 a7 => wpAny_pure (hQ h' tk a1 a2 a3 a4 a5 a6 a7)) (F.args_zip_next_1 _))))
theorem pyNext_zipR_end {z TI TO i1 i2 l1 l2 : Addr} {a b : Value} {Q : Option Value → Shared → Prop} (hh : A.handled = none) (D : ZipApart z TI TO i1 i2 l1 l2)
    (hz : IsZip s.heap z TI TO .none) (hTI : IsPair s.heap TI (.ref i1) (.ref i2)) (hTO : IsPair s.heap TO a b) (h1 : s.heap.IsRevIter i1 l1 (-1))
    (hQ : ∀ h', (∀ c o, c ≠ z → c ≠ TO → c ≠ i1 → c ≠ i2 → s.heap.get? c = some o → h'.get? c = some o) → Q none { s with heap := h' }) : wpAny (model prog w) A (pyNext (.ref z)) Q E s := by
  have hT : s.TypeIs (.ref z) "zip" := ⟨_, hz, rfl⟩
  unfold pyNext
  refine wpAny_bind (wpAny_attempt (wpAny_callSpecial?_slot (name := Str.ofString "__next__") hT F.slot_zip_next
    (wpAny_call_entry F.slot_zip_next hT F.entry_zip_next (zipR_next_end hh D hz hTI hTO h1 fun h' e hk he => ?_) (F.args_zip_next_1 _))))
  obtain ⟨o, ho, hc⟩ := he
  refine wpAny_bind (wpAny_isInstance (T := "StopIteration") (b := true) ⟨o, ho, hc⟩ isSubtype_stop ?_)
  exact wpAny_pure (hQ _ hk)
end
abbrev zR3 (h : Heap) (i1 i2 : Addr) : Heap := h.push { cls := .type "tuple", data := .seq #[.ref i1, .ref i2] }
abbrev zR4 (h : Heap) (i1 i2 : Addr) : Heap := (zR3 h i1 i2).push { cls := .type "tuple", data := .seq #[.none, .none] }
abbrev zR5 (h : Heap) (i1 i2 : Addr) : Heap := (zR4 h i1 i2).push { cls := .type "zip", data := .fields #[.none, .bool false, .bool false, .ref h.objs.size, .ref (zR3 h i1 i2).objs.size] }
theorem meets_zipR_new (i1 i2 l1 l2 : Addr) (j1 j2 : Int) :
    Meets (Builtin.«zip.__new__» ⟨[.type "zip", .ref i1, .ref i2], []⟩) (fun _ R s => s.heap.IsRevIter i1 l1 j1 ∧ RT.IsRt s.heap i2 l2 j2 ∧
      R (.ok (.ret (.ref (zR4 s.heap i1 i2).objs.size))) { s with heap := zR5 s.heap i1 i2 }) :=
  .of_wp fun prog w A R s h => by
    obtain ⟨hp, g, d, tk, os⟩ := s; obtain ⟨hl1, hl2, h⟩ := h
    have hsub := sub_zip
    have hL1 : Heap.IsRevIter (Shared.heap ⟨hp, g, d, tk, os⟩) i1 l1 j1 := hl1
    have hL2 : RT.IsRt (Shared.heap ⟨hp, g, d, tk, os⟩) i2 l2 j2 := hl2
    wp_walk using wpAny_pyIter_revIter hL1, RT.iter_rt hL2
    exact ⟨_, rfl, h⟩
section
variable {prog : Program} {w : World} {A : Around} {E : Value → Shared → Prop} {s : Shared}
theorem call_zipR {i1 i2 l1 l2 : Addr} {j1 j2 : Int} {Q : Value → Shared → Prop} (h1 : s.heap.IsRevIter i1 l1 j1) (h2 : RT.IsRt s.heap i2 l2 j2)
    (h : ∀ h', IsZip h' (s.heap.objs.size + 2) s.heap.objs.size (s.heap.objs.size + 1) .none → IsPair h' s.heap.objs.size (.ref i1) (.ref i2) → IsPair h' (s.heap.objs.size + 1) .none .none →
      (∀ c o, s.heap.get? c = some o → h'.get? c = some o) → Q (.ref (s.heap.objs.size + 2)) { s with heap := h' }) :
    wpAny (model prog w) A (call (.type "zip") [.ref i1, .ref i2]) Q E s := by
  refine callType_new F.called_zip (by decide) (F.typeCall_zip_2 _ _) (F.newCall_zip_2 _ _) (fun obj => F.args_object_init_3 obj _ _) F.entry_zip_new
    (meets_zipR_new i1 i2 l1 l2 j1 j2) ⟨h1, h2, ?_⟩
  have z3 : (zR3 s.heap i1 i2).objs.size = s.heap.objs.size + 1 := Heap.size_push ..
  have z4 : (zR4 s.heap i1 i2).objs.size = s.heap.objs.size + 2 := by rw [Heap.size_push, z3]
  have g5 : (zR5 s.heap i1 i2).get? (zR4 s.heap i1 i2).objs.size = some _ := Heap.get?_push_size _ rfl
  have g4 : (zR5 s.heap i1 i2).get? (zR3 s.heap i1 i2).objs.size = some _ := Heap.get?_push_of_some _ (Heap.get?_push_size _ rfl)
  have g3 : (zR5 s.heap i1 i2).get? s.heap.objs.size = some _ := Heap.get?_push_of_some _ (Heap.get?_push_of_some _ (Heap.get?_push_size _ rfl))
  show _ ∧ _
  rw [z3, z4] at g5
  rw [z3] at g4
  rw [z4]
  exact ⟨⟨_, g5, rfl⟩, h _ g5 g3 g4 fun c o x => Heap.get?_push_of_some _ (Heap.get?_push_of_some _ (Heap.get?_push_of_some _ x))⟩
end
/-! ### the walk -/
def ItzR (K : PySem.W.Frag) (a b : Addr) (n : Nat) : It :=
  ⟨fun i H => i < n ∧ ∃ (xs ys : List V) (x y : V), SqL K H a xs ∧ SqT K H b ys ∧ xs[n - 1 - i]? = some x ∧ ys[n - 1 - i]? = some y,
    fun i H v H' => ∃ T x y, v = .ref T ∧ H T = none ∧ H' = upd H T (.tup [x, y]) ∧ (∀ xs, SqL K H a xs → xs[n - 1 - i]? = some x) ∧ ∀ ys, SqT K H b ys → ys[n - 1 - i]? = some y,
    fun i _ => n ≤ i⟩
theorem turn_zipR {P : Program} {w : World} {K : PySem.W.Frag} {elts : List Expr} {kk : Nat} {tpos : Pos} {a b z TI TO i1 i2 : Addr} (n : Nat) (D : ZipApart z TI TO i1 i2 a b) :
    Turn P w K (.Tuple elts kk tpos) (ItzR K a b n) [z, TI, TO, i1, i2] z (fun i h => i ≤ n ∧ IsZip h z TI TO .none ∧ IsPair h TI (.ref i1) (.ref i2) ∧ (∃ x y, IsPair h TO x y) ∧ h.IsRevIter i1 a ((n : Int) - 1 - (i : Nat)) ∧ RT.IsRt h i2 b ((n : Int) - 1 - (i : Nat))) where
  mem := by simp
  obj := fun i h st c hc => by
    obtain ⟨_, hz, hTI, ⟨x, y, hTO⟩, ⟨o1, e1, _, d1⟩, ⟨o2, e2, _, d2⟩⟩ := st
    have e' : c = z ∨ c = TI ∨ c = TO ∨ c = i1 ∨ c = i2 := by simpa using hc
    rcases e' with q | q | q | q | q
    · rw [q]; exact ⟨_, hz, fun v q => nomatch q⟩
    · rw [q]; exact ⟨_, hTI, fun v q => nomatch q⟩
    · rw [q]; exact ⟨_, hTO, fun v q => nomatch q⟩
    · rw [q]; exact ⟨o1, e1, fun v q => by rw [d1] at q; cases q⟩
    · rw [q]; exact ⟨o2, e2, fun v q => by rw [d2] at q; cases q⟩
  keep := fun i h h' st k => by
    obtain ⟨hi, hz, hTI, ⟨x, y, hTO⟩, h1, h2⟩ := st
    exact ⟨hi, k z (by simp) _ hz, k TI (by simp) _ hTI, ⟨x, y, k TO (by simp) _ hTO⟩, h1.at fun o q => k i1 (by simp) o q, h2.at fun o q => k i2 (by simp) o q⟩
  item := by
    intro X hP hw hK hc i pins s σ H E I hf st hg
    subst hP hw hK
    obtain ⟨_, hz, hTI, ⟨x0, y0, hTO⟩, h1, h2⟩ := st
    obtain ⟨hin, xs, ys, x, y, hqx, hqy, hx, hy⟩ := hg
    obtain ⟨its, rv, p, _⟩ := I.list hqx
    obtain ⟨its2, rv2, p2, hz2⟩ := I.tuple hqy
    obtain ⟨u, hu, ru⟩ := rv.get hx
    obtain ⟨u2, hu2, ru2⟩ := rv2.get hy
    have hzl : z < s.heap.objs.size := Heap.lt_size hz
    have e1 : (n : Int) - 1 - ((i : Nat) : Int) = ((n - 1 - i : Nat) : Int) := by omega
    rw [e1] at h1 h2
    have hsz2 : its2.toArray.size ≤ sizeLine := by rw [List.size_toArray, ← rv2.length]; exact hz2
    refine pyNext_zipR_item D hz hTI hTO h1 h2 p.isList p2 (x := u) (y := u2) (by simpa using hu) (by simpa using hu2) hsz2 fun h' tk z' TO' h1' h2' hT hsz hk => ?_
    refine ⟨_, rfl, wpAny_letOwnedTupleGo_zip (s := { s with heap := h', toks := tk }) z' fun h'' z'' sb => ?_⟩
    have hT2 : h''.get? s.heap.objs.size = some { cls := .type "tuple", data := .seq #[u, u2] } := (sb.2 _ (Nat.ne_of_gt hzl)).trans hT
    have new : ObjOk X.prog X.w (upd H s.heap.objs.size (.tup [x, y])) h'' s.heap.objs.size (.tup [x, y]) :=
      ⟨by show 2 ≤ sizeLine; decide, [u, u2], .cons ru (.cons ru2 .nil), ⟨_, hT2, rfl, _, rfl⟩⟩
    have I1 : Inv X pins σ (upd H s.heap.objs.size (.tup [x, y])) { s with heap := h'', toks := tk } :=
      I.turnedNew (t' := tk) (ch := [z, TI, TO, i1, i2]) (fun c o hb q => (sb.2 c (fun q' => hb (by simp [q']))).trans (hk c o (fun q' => hb (by simp [q'])) (fun q' => hb (by simp [q'])) (fun q' => hb (by simp [q'])) (fun q' => hb (by simp [q'])) q)) hf (Nat.le_refl _) new
    have e2 : ((n - 1 - i : Nat) : Int) - 1 = (n : Int) - 1 - ((i + 1 : Nat) : Int) := by omega
    rw [e2] at h1' h2'
    refine ⟨.ref s.heap.objs.size, _, I1, rfl, ⟨_, x, y, rfl, I.hok.fresh (Nat.le_refl _), rfl, fun l hl => by rw [I.list_inj hl hqx]; exact hx, fun l hl => by rw [I.tuple_inj hl hqy]; exact hy⟩, ⟨hin, z'', ?_, ⟨u, u2, ?_⟩, ?_, ?_⟩, fun c hcm => ?_⟩
    · exact (sb.2 _ D.TIz).trans (hk _ _ D.TIz D.TITO D.TIi1 D.TIi2 hTI)
    · exact (sb.2 _ D.TOz).trans TO'
    · exact h1'.at fun o q => (sb.2 _ D.i1z).trans q
    · exact h2'.at fun o q => (sb.2 _ D.i2z).trans q
    · have hlt : c < s.heap.objs.size := by
        have e' : c = z ∨ c = TI ∨ c = TO ∨ c = i1 ∨ c = i2 := by simpa using hcm
        rcases e' with q | q | q | q | q
        · rw [q]; exact hzl
        · rw [q]; exact Heap.lt_size hTI
        · rw [q]; exact Heap.lt_size hTO
        · rw [q]; obtain ⟨_, e1, _⟩ := h1; exact Heap.lt_size e1
        · rw [q]; obtain ⟨_, e2, _⟩ := h2; exact Heap.lt_size e2
      rw [upd_ne (Nat.ne_of_lt hlt)]
      exact (hf c hcm).1
  done := by
    intro X hP hw hK hc i pins s σ H E I hf st hg
    subst hP hw hK
    obtain ⟨hin, hz, hTI, ⟨x0, y0, hTO⟩, h1, h2⟩ := st
    have hge : n ≤ i := hg
    have e1 : (n : Int) - 1 - ((i : Nat) : Int) = -1 := by omega
    rw [e1] at h1
    exact pyNext_zipR_end (I.ok.hd hc) D hz hTI hTO h1 fun h' hk => ⟨rfl, I.turnedL (t' := s.toks) (ch := [z, TI, TO, i1, i2]) (fun c o hb q =>
      hk c o (fun q' => hb (by simp [q'])) (fun q' => hb (by simp [q'])) (fun q' => hb (by simp [q'])) (fun q' => hb (by simp [q'])) q) hf⟩
  self := fun A i s Q E st h => wpAny_pyIter_zip st.2.1 h
def iZipR (K : PySem.W.Frag) (te te2 : TE) : TI := fun σ H R => te σ H fun v H1 => ∃ (a : Addr) (xs : List V), v = .ref a ∧ SqL K H1 a xs ∧ te2 σ H1 fun v2 H2 => ∃ (b : Addr) (ys : List V), v2 = .ref b ∧ SqT K H2 b ys ∧ ys.length = xs.length ∧ R (ItzR K a b xs.length) H2
section
variable {X : Cx}
theorem pi_zipR {e e2 : Expr} {te te2 : TE} {p p1 p2 pos pos1 pos2 tpos : Pos} {elts : List Expr} {kk : Nat} (hg : Gl X "zip") (hm : X.mg "zip" = none) (hg2 : Gl X "reversed") (hm2 : X.mg "reversed" = none) (he : PE X e te) (he2 : PE X e2 te2)
    (hs : starEach [.Call (.Name "reversed" p1) [e] [] pos1, .Call (.Name "reversed" p2) [e2] [] pos2] X.env = (false, eval (.Call (.Name "reversed" p1) [e] [] pos1) X.env) :: starEach [.Call (.Name "reversed" p2) [e2] [] pos2] X.env := by rfl)
    (hs2 : starEach [.Call (.Name "reversed" p2) [e2] [] pos2] X.env = (false, eval (.Call (.Name "reversed" p2) [e2] [] pos2) X.env) :: starEach [] X.env := by rfl)
    (n1 : starEach [e] X.env = (false, eval e X.env) :: starEach [] X.env := by rfl) (n2 : starEach [e2] X.env = (false, eval e2 X.env) :: starEach [] X.env := by rfl)
    (hpl : (backTo pos (starEach [.Call (.Name "reversed" p2) [e2] [] pos2] X.env)).any (·.1) = false := by rfl) :
    PI X (.Tuple elts kk tpos) (.Call (.Name "zip" p) [.Call (.Name "reversed" p1) [e] [] pos1, .Call (.Name "reversed" p2) [e2] [] pos2] [] pos) (iZipR X.K te te2) := by
  refine ⟨fun pins s σ H R I h => ?_⟩
  refine Call_ (ld_blt I hg hm PyProof.Rows.boot_zip (PyProof.Rows.callWith_type1 (args_cons (Call_ (ld_blt I hg2 hm2 PyProof.Rows.boot_reversed (PyProof.Rows.callWith_type1 (args_cons (thn (he.run pins s σ H _ I h) fun u s1 ⟨v, H1, I1, r1, q1⟩ => args_nil ?_) n1) n1 rfl))) hs) hs hpl))
  obtain ⟨a, xs, ev, hqx, q1⟩ := q1
  subst ev
  obtain rfl : u = Value.ref a := r1
  obtain ⟨its, rv, p', hz⟩ := I1.list hqx
  refine call_reversed_list p'.isList ?_
  have I2 : Inv X pins σ H1 { s1 with heap := s1.heap.push (revObj a ((its.toArray.size : Int) - 1)) } := I1.kept (t' := s1.toks) fun b o e => Heap.get?_push_of_some _ e
  obtain ⟨f0, f1, f2, f3, f4, f5⟩ := I1.fpOk (H' := H1) (b := s1.heap.objs.size) (Nat.le_refl _) (I1.hok.fresh (Nat.le_refl _))
  have I2p : Inv X (pins ++ [(s1.heap.objs.size, revObj a ((its.toArray.size : Int) - 1))]) σ H1 { s1 with heap := s1.heap.push (revObj a ((its.toArray.size : Int) - 1)) } := I2.pins_of fun p hp => by
    rcases List.mem_append.mp hp with hp | hp
    · exact I2.pin p (List.mem_append_right _ hp)
    · rw [List.mem_singleton.mp hp]
      exact ⟨Heap.get?_push_size _ rfl, f0, f1, f2, fun v z => by cases z⟩
  refine args_cons (Call_ (ld_blt I2p hg2 hm2 PyProof.Rows.boot_reversed (PyProof.Rows.callWith_type1 (args_cons (thn (he2.run _ _ σ H1 _ I2p q1) fun u2 s3 ⟨v2, H2, I3, r2, q2⟩ => args_nil ?_) n2) n2 rfl))) hs2
  obtain ⟨b, ys, ev, hqy, q2⟩ := q2
  subst ev
  obtain rfl : u2 = Value.ref b := r2
  obtain ⟨its2, rv2, p2', hz2⟩ := I3.tuple hqy
  have hn := line63
  have hl2 := rv2.length
  have pin := I3.pin (s1.heap.objs.size, revObj a ((its.toArray.size : Int) - 1)) (List.mem_append_right _ (List.mem_append_right _ (List.mem_singleton_self _)))
  obtain ⟨g1, g2, _⟩ := pin
  refine RT.call_reversed_tup p2' (fun A E Q k => len_tuple p2' (by simp only [List.size_toArray] <;> omega) k) (args_nil ?_)
  have I4 : Inv X pins σ H2 { s3 with heap := s3.heap.push (RT.rtObj b ((its2.toArray.size : Int) - 1)), toks := s3.toks + 1 + 1 } := (I3.pins_of (pins' := pins) fun p hp => I3.pin p (List.mem_append_right _ (List.mem_append_left _ hp))).kept (t' := s3.toks + 1 + 1) fun b o e => Heap.get?_push_of_some _ e
  obtain ⟨oa, hoa, _⟩ := id p'.isList
  obtain ⟨ob, hob, hcb, _⟩ := id p2'
  have la : @LT.lt Nat instLTNat a s1.heap.objs.size := Heap.lt_size hoa
  have lb : @LT.lt Nat instLTNat b s3.heap.objs.size := Heap.lt_size hob
  have l1 : @LT.lt Nat instLTNat s1.heap.objs.size s3.heap.objs.size := Heap.lt_size g1
  have nb : b ≠ s1.heap.objs.size := fun z => by
    rw [z, g1] at hob
    cases hob
    injection hcb with h
    exact absurd h (by decide)
  have hsz : (s3.heap.push (RT.rtObj b ((its2.toArray.size : Int) - 1))).objs.size = s3.heap.objs.size + 1 := Heap.size_push ..
  have k1 : Heap.IsRevIter (s3.heap.push (RT.rtObj b ((its2.toArray.size : Int) - 1))) s1.heap.objs.size a ((its.toArray.size : Int) - 1) := ⟨_, Heap.get?_push_of_some _ g1, rfl, rfl⟩
  have k2 : RT.IsRt (s3.heap.push (RT.rtObj b ((its2.toArray.size : Int) - 1))) s3.heap.objs.size b ((its2.toArray.size : Int) - 1) := ⟨_, Heap.get?_push_size _ rfl, rfl, rfl⟩
  obtain ⟨hlen, q2⟩ := q2
  refine call_zipR (s := { s3 with heap := s3.heap.push (RT.rtObj b ((its2.toArray.size : Int) - 1)), toks := s3.toks + 1 + 1 }) k1 k2 fun h' hz5 hTI hTO hk => wpAny_pyIter_zip hz5 ?_
  have I5 : Inv X pins σ H2 { s3 with heap := h', toks := s3.toks + 1 + 1 } := I4.kept (t' := s3.toks + 1 + 1) hk
  simp only [hsz] at hz5 hTI hTO ⊢
  have D : ZipApart (s3.heap.objs.size + 1 + 2) (s3.heap.objs.size + 1) (s3.heap.objs.size + 1 + 1) s1.heap.objs.size s3.heap.objs.size a b := by
    constructor
    all_goals first | exact nb | (intro (z : @Eq Nat _ _); omega)
  have e1 : ((its.toArray.size : Nat) : Int) - 1 = (xs.length : Int) - 1 - ((0 : Nat) : Int) := by simp only [List.size_toArray]; have := rv.length; omega
  have e2 : ((its2.toArray.size : Nat) : Int) - 1 = (xs.length : Int) - 1 - ((0 : Nat) : Int) := by simp only [List.size_toArray]; have := rv2.length; omega
  rw [e1] at k1
  rw [e2] at k2 hk
  refine ⟨s3.heap.objs.size + 1 + 2, [s3.heap.objs.size + 1 + 2, s3.heap.objs.size + 1, s3.heap.objs.size + 1 + 1, s1.heap.objs.size, s3.heap.objs.size], _, _, H2, rfl, I5, turn_zipR xs.length D, ⟨Nat.zero_le _, hz5, hTI, ⟨_, _, hTO⟩, k1.at fun o e => by rw [e2] at e; exact hk _ o e, k2.at fun o e => hk _ o e⟩, fun c hcm => ?_, q2⟩
  have fr : ∀ c, s3.heap.objs.size ≤ c → FpOk X pins H2 c := fun c hle => ((I3.unpinned).fpOk hle (I3.hok.fresh hle))
  have e' : c = s3.heap.objs.size + 1 + 2 ∨ c = s3.heap.objs.size + 1 ∨ c = s3.heap.objs.size + 1 + 1 ∨ c = s1.heap.objs.size ∨ c = s3.heap.objs.size := by simpa using hcm
  rcases e' with z | z | z | z | z
  · rw [z]; exact fr _ (Nat.le_of_lt (by omega))
  · rw [z]; exact fr _ (Nat.le_of_lt (by omega))
  · rw [z]; exact fr _ (Nat.le_of_lt (by omega))
  · rw [z]; exact I1.fpOk (Nat.le_refl _) g2
  · rw [z]; exact fr _ (Nat.le_refl _)
end
variable [TabCfg]
def itZR (r : Nat) (ys : List D) (n : Nat) : ItD := ⟨n, fun i S => match lstAt S r with
  | some xs => match xs[n - 1 - i]?, ys[n - 1 - i]? with
    | some x, some y => some (.tup [x, y])
    | _, _ => none
  | none => none, fun _ => true⟩
theorem itZR_ok {K : PySem.W.Frag} {mg : Str → Option Value} {β : List Addr} {H : Hp} {r n : Nat} {a b : Addr} {ys : List D} {vs : List V} (ha : β[r]? = some a) (hb : H b = some (.tup vs)) (hv : Vds K mg β H vs ys) : ItOk K mg β H (ItzR K a b n) (itZR r ys n) := by
  intro β' H' S' x rl
  have k3 : SqT K H' b vs := .of (x.tup _ _ hb)
  refine ⟨fun i d hi hd => ?_, fun _ => Nat.le_refl _⟩
  have hd : (match lstAt S' r with
  | some xs => match xs[n - 1 - i]?, ys[n - 1 - i]? with
    | some x, some y => some (D.tup [x, y])
    | _, _ => none
  | none => none) = some d := hd
  cases q1 : lstAt S' r with
  | none => rw [q1] at hd; cases hd
  | some xs =>
    rw [q1] at hd
    dsimp only at hd
    cases q2 : xs[n - 1 - i]? with
    | none => rw [q2] at hd; cases hd
    | some x0 =>
      cases q3 : ys[n - 1 - i]? with
      | none => rw [q2, q3] at hd; cases hd
      | some y0 =>
        rw [q2, q3] at hd
        cases hd
        obtain ⟨us, k1, k2⟩ := lst_read rl (x.at' ha) q1
        obtain ⟨u, k5, k6⟩ := k2.get q2
        obtain ⟨v, k7, k8⟩ := (hv.ext x).get q3
        refine ⟨⟨hi, us, vs, u, v, k1, k3, k5, k7⟩, fun y H'' hy => ?_⟩
        obtain ⟨T, u', v', rfl, hT, rfl, g1, g2⟩ := hy
        have z1 := g1 us k1
        have z2 := g2 vs k3
        rw [k5] at z1
        rw [k7] at z2
        cases z1
        cases z2
        exact pair_made rl hT k6 k8
noncomputable def mZipR (m m2 : Mx) : Mi := fun ρ S => (m ρ S).bind fun d S1 => match d with
  | .ref r => match lstAt S1 r with
    | some xs => (m2 ρ S1).bind fun e S2 => match e with
      | .tup ys => if ys.length = xs.length then .ok (itZR r ys xs.length) S2 else .stuck
      | _ => .stuck
    | none => .stuck
  | _ => .stuck
section
variable {X : Cx} {W : WX} {m m2 : Mx} {e e2 : Expr} {p p1 p2 pos pos1 pos2 tpos : Pos} {elts : List Expr} {kk : Nat}
theorem mi_zipR (hm : X.mg "zip" = none) (hm2 : X.mg "reversed" = none) (he : ME X W e m) (he2 : ME X W e2 m2) (hg : Gl X "zip" := by rfl) (hg2 : Gl X "reversed" := by rfl)
    (hs : starEach [.Call (.Name "reversed" p1) [e] [] pos1, .Call (.Name "reversed" p2) [e2] [] pos2] X.env = (false, eval (.Call (.Name "reversed" p1) [e] [] pos1) X.env) :: starEach [.Call (.Name "reversed" p2) [e2] [] pos2] X.env := by rfl)
    (hs2 : starEach [.Call (.Name "reversed" p2) [e2] [] pos2] X.env = (false, eval (.Call (.Name "reversed" p2) [e2] [] pos2) X.env) :: starEach [] X.env := by rfl)
    (n1 : starEach [e] X.env = (false, eval e X.env) :: starEach [] X.env := by rfl) (n2 : starEach [e2] X.env = (false, eval e2 X.env) :: starEach [] X.env := by rfl)
    (hpl : (backTo pos (starEach [.Call (.Name "reversed" p2) [e2] [] pos2] X.env)).any (·.1) = false := by rfl) :
    MI X W (.Tuple elts kk tpos) (.Call (.Name "zip" p) [.Call (.Name "reversed" p1) [e] [] pos1, .Call (.Name "reversed" p2) [e2] [] pos2] [] pos) (mZipR m m2) := by
  refine ⟨PI.weak (pi_zipR hg hm hg2 hm2 he.pe he2.pe hs hs2 n1 n2 hpl) fun σ H Q ⟨β, S, ρ, rl, en, q⟩ => ⟨β, S, ρ, rl, en, (Po.bind q).mono fun d β1 S1 H1 x1 r1 q1 v hv => ?_⟩⟩
  cases d with
  | ref r =>
    obtain ⟨a, rfl, h1⟩ := hv.ref_inv
    dsimp only at q1
    cases e1 : lstAt S1 r with
    | none => rw [e1] at q1; exact q1.elim
    | some xs =>
      rw [e1] at q1
      dsimp only at q1
      obtain ⟨us, h2, h3⟩ := lst_read r1 h1 e1
      refine ⟨a, us, rfl, h2, β1, S1, ρ, r1, en.ext x1, (Po.bind q1).mono fun d2 β2 S2 H2 x2 r2 q2 v2 hv2 => ?_⟩
      cases d2 with
      | tup ys =>
        obtain ⟨b, vs, rfl, g1, g2⟩ := hv2.tup_at
        dsimp only at q2
        split at q2
        · rename_i hl
          refine ⟨b, vs, rfl, .of g1, by rw [g2.length, h3.length, hl], ?_⟩
          rw [h3.length]
          exact q2 β2 H2 .refl r2 _ (itZR_ok (x2.at' h1) g1 g2)
        · exact q2.elim
      | _ => exact q2.elim
  | _ => exact q1.elim
@[simp] theorem ev_zipR {ρ : Env'} {S : Sto} : mZipR m m2 ρ S = (m ρ S).bind fun d S1 => match d with
  | .ref r => match lstAt S1 r with
    | some xs => (m2 ρ S1).bind fun e S2 => match e with
      | .tup ys => if ys.length = xs.length then .ok (itZR r ys xs.length) S2 else .stuck
      | _ => .stuck
    | none => .stuck
  | _ => .stuck := rfl
end
end Eng

set_option maxHeartbeats 2000000
/-! The engine, part 36: own exceptions with fields. -/
namespace Eng
open PySem PySem.Spec PyProof.Rows L2
/-! ### B.__init__(self, ..): B an own class of exceptions -/
/-- what the written part must say of B -/
structure IniC (K : PySem.W.Frag) (C : Addr) : Prop where
  rd : PySem.W.readsIn K C (.type "type") = true
  ga : PySem.W.specialIn K (.ref C) "__getattribute__" = some (some (.builtin "type.__getattribute__"))
  at_ : PySem.W.findCls K (.ref C) (.type "type") "__init__" = some (.val (.builtin "ValueError.__init__"))
def iniB (K : PySem.W.Frag) (C : Addr) : Bool := PySem.W.readsIn K C (.type "type") && (decide (PySem.W.specialIn K (.ref C) "__getattribute__" = some (some (.builtin "type.__getattribute__"))) &&
  match PySem.W.findCls K (.ref C) (.type "type") "__init__" with
  | some (.val v) => decide (v = .builtin "ValueError.__init__")
  | _ => false)
theorem iniB_ok {K : PySem.W.Frag} {C : Addr} (h : iniB K C = true) : IniC K C := by
  unfold iniB at h
  obtain ⟨h1, h⟩ := Bool.and_eq_true_iff.mp h
  obtain ⟨h2, h3⟩ := Bool.and_eq_true_iff.mp h
  refine ⟨h1, of_decide_eq_true h2, ?_⟩
  split at h3
  · rename_i v e
    rw [e, of_decide_eq_true h3]
  · cases h3
def oexB (K : PySem.W.Frag) (C : Addr) : Bool := (match K.lookup C with
  | some ⟨.type "type", _, .cls cd, sl⟩ => (match cd.mro, sl.toList with
    | .ref C' :: bm, [_, _, _, _, some (.builtin n), _] => C' == C && (n == "ValueError.__new__" && (!cd.hasDel && (cd.hasDict && PySem.HandSPX.refsVE bm)))
    | _, _ => false)
  | _ => false) && (decide (PySem.W.findIn K (.ref C) "__setattr__" = some (some (.builtin "object.__setattr__"))) && (decide (PySem.W.subIn K (.ref C) (.type "BaseException") = some true) && (decide (PySem.W.typeIn K (.ref C) = some (.type "type")) && PySem.W.keepIn K (.ref C))))
theorem oexB_ok {K : PySem.W.Frag} {C : Addr} (h : oexB K C = true) : OexC K C := by
  unfold oexB at h
  obtain ⟨q, h⟩ := Bool.and_eq_true_iff.mp h
  obtain ⟨h2, h⟩ := Bool.and_eq_true_iff.mp h
  obtain ⟨h3, h⟩ := Bool.and_eq_true_iff.mp h
  obtain ⟨h4, h5⟩ := Bool.and_eq_true_iff.mp h
  refine ⟨?_, of_decide_eq_true h2, of_decide_eq_true h3, of_decide_eq_true h4, h5⟩
  split at q
  · rename_i dd cd sl ho
    split at q
    · rename_i C' bm k0 k1 k2 k3 n k5 hm hs
      simp only [Bool.and_eq_true, beq_iff_eq, Bool.not_eq_true'] at q
      obtain ⟨rfl, rfl, hdel, hdict, ht⟩ := q
      obtain ⟨nm, bs, mro, ns, qn, hd, sn, sub, ab, col, del⟩ := cd
      dsimp only at hm hdel hdict
      subst hm hdel hdict
      have hsl : sl = #[k0, k1, k2, k3, some (.builtin "ValueError.__new__"), k5] := by
        obtain ⟨l⟩ := sl
        simp only at hs
        rw [hs]
      subst hsl
      exact ⟨nm, qn, ns, bs, bm, sn, sub, ab, col, dd, k0, k1, k2, k3, k5, ho, ht⟩
    · cases q
  · cases q
section
variable {X : Cx} {e : Expr} {es : List Expr} {ta : TA} {p p1 p2 pos : Pos} {x : Str} {Cb : Addr}
theorem pe_oinit {pl : Sem Bool} (hg : Gl X x) (hm : X.mg x = some (.ref Cb)) (C : IniC X.K Cb) (ha : PA X (e :: es) ta) (hdb : (x == ("__debug__" : Str)) = false := by decide)
    (hc : eval (.Call (.Attribute (.Name x p1) "__init__" p2) (e :: es) [] pos) X.env = (do
      let ov ← eval (.Name x p1) X.env
      standAt p2.atName
      let (f, first) ← holding [ov] (getMethod ov "__init__" pl)
      callWith pos f first (backTo pos (starEach (e :: es) X.env)) (backToKw pos (keywordEach [] X.env))) := by rfl)
    (he : starEach (e :: es) X.env = (false, eval e X.env) :: starEach es X.env := by rfl) (hpl : (backTo pos (starEach es X.env)).any (·.1) = false := by rfl) :
    PE X (.Call (.Attribute (.Name x p1) "__init__" p2) (e :: es) [] pos) (tVeI X.K ta) := by
  refine ⟨fun pins s σ H Q I h => ?_⟩
  refine PySem.W.methodCall_KW (ld_glob I hg hm ?_ hdb) hc
  refine PySem.W.method_cls I.kIn C.ga (PySem.W.cls_value I.kIn C.rd C.at_ (by rfl) ?_)
  show wpAny _ _ (callWith pos (Value.builtin "ValueError.__init__") [] (backTo pos (starEach (e :: es) X.env)) []) _ _ _
  refine PyProof.Rows.callWith_method1 (thn (ha.run pos pins _ σ H _ (I.tok _) h) fun us s1 ⟨vs, H1, I1, r1, a, C, ws, ev, hl, T, ea, q⟩ => ?_) he hpl
  subst ev
  cases r1 with
  | @cons _ u0 _ ur ra rw' =>
    obtain rfl : u0 = Value.ref a := ra
    have hlen : ur.length ≤ sizeLine := by
      rw [← Paired.length rw', sizeLine_eq]
      omega
    exact oinit_ok T I1 ea hlen fun s' J => ⟨.non, H1, J, rfl, q⟩
end
/-! ### the making of one with two fields -/
def spXI (K : PySem.W.Frag) (f1 f2 : Str) : Sp := fun vs H Q _ => ∃ (a C : Addr) (v1 v2 : V), vs = [.ref a, v1, v2] ∧ OexC K C ∧ PySem.W.findIn K (.ref C) f1 = some none ∧ PySem.W.findIn K (.ref C) f2 = some none ∧ H a = some (exo a C none) ∧
  ∀ dx, H dx = none → dx ≠ a → Q .non (upd (upd (upd H dx (exd dx [(f1, v1)])) a (exo a C (some dx))) dx (exd dx [(f2, v2), (f1, v1)]))
def tXI (K : PySem.W.Frag) (m : Str) (f1 f2 : Str) : TS := tSeq (tDrop (tVeI K (tCons (tVar 0) (tCons (tC (.str m)) tNil)))) (tSeq (tOst K f1 (tVar 0) (tVar 1)) (tOst K f2 (tVar 0) (tVar 2)))
theorem tXI_start {K : PySem.W.Frag} {m f1 f2 n0 n1 n2 : Str} {vs : List V} {H : Hp} {Q : VK} {E : XK} (h : spXI K f1 f2 vs H Q E) : tXI K m f1 f2 { nx := fun _ H' => Q .non H', rt := Q } (L2.start [n0, n1, n2] vs) H := by
  obtain ⟨a, C, v1, v2, rfl, T, h1, h2, ha, q⟩ := h
  refine ⟨.ref a, rfl, a, C, [.str m], rfl, by simp, T, ha, ?_⟩
  refine ⟨v1, rfl, .ref a, rfl, a, C, rfl, T, h1, .inl ⟨ha, fun dx n ne => ?_⟩⟩
  refine ⟨v2, rfl, .ref a, rfl, a, C, rfl, T, h2, .inr ⟨dx, [(f1, v1)], upd_same, by rw [upd_ne ne, upd_same], by simp, q dx n ne⟩⟩
section
variable {P : Program} {w : World} {K : PySem.W.Frag} {mg : Str → Option Value} {base : Heap}
theorem fn_exi {x qual : Str} {st : Stmt} {f : Addr} {fd : FuncData} {n0 n1 n2 m f1 f2 : Str} {k : Nat} (F : Fun K x qual st f fd) (S : FnScope [n0, n1, n2] [n0, n1, n2] (defScope st))
    (h : ∀ (cdv : Value) (A : Around) (outer : List Env) (s : Shared) (H : Hp) (E : XK), PSs (cxOf (L2.CX P w) P w K mg base [n0, n1, n2] qual (defScope st) f cdv A outer s H E) (defBody st) (tXI K m f1 f2)) : FnOk P w K mg base (L2.CX P w) (k + 1) f fd [n0, n1, n2] (spXI K f1 f2) :=
  F.okX S (fun vs H Q E ⟨a, C, v1, v2, e, _⟩ => by rw [e]; rfl) fun cdv A outer s H vs Q E hr hq => ⟨_, h cdv A outer s H E, tXI_start hq⟩
end
variable [TabCfg]
def mKF (c f1 f2 : Str) (m1 m2 : Mx) : Mk' := fun ρ S => (m1 ρ S).bind fun d1 S1 => (m2 ρ S1).bind fun d2 S2 => .ok ⟨c, [(f2, d2), (f1, d1)]⟩ S2
section
variable {X : Cx} {W : WX} {e1 e2 : Expr} {m1 m2 : Mx} {p pos : Pos} {x f1 f2 : Str} {C fI : Addr} {k j : Nat} {fd : FuncData} {ps : List Str}
theorem mk_flds (T : OexC X.K C) (h1 : PySem.W.findIn X.K (.ref C) f1 = some none) (h2 : PySem.W.findIn X.K (.ref C) f2 = some none) (iC : PySem.W.findIn X.K (.ref C) "__init__" = some (some (.ref fI))) (tI : PySem.W.typeIn X.K (.ref fI) = some (.type "function"))
    (F1 : FnOk X.prog X.w X.K X.mg X.base (L2.CX X.prog X.w) k fI fd ps (spXI X.K f1 f2)) (hr : Room j X.A) (hb : Binds X.K fd ps []) (hm : X.mg x = some (.ref C)) (ha : MA X W [e1, e2] (mCons m1 (mCons m2 mNil))) (hkj : k + 1 ≤ j := by decide) (hg : Gl X x := by rfl)
    (hdb : (x == ("__debug__" : Str)) = false := by decide) (he : starEach [e1, e2] X.env = (false, eval e1 X.env) :: starEach [e2] X.env := by rfl) (hpl : (backTo pos (starEach [e2] X.env)).any (·.1) = false := by rfl) :
    MK X W (.Call (.Name x p) [e1, e2] [] pos) (mKF x f1 f2 m1 m2) := by
  refine ⟨fun pins s σ H Q I h => pmk_oex (sp := spXI X.K f1 f2) (dvs := []) T iC tI F1 (hr.mono hkj) hb .nil passL hg hm ha.pa hdb he hpl pins s σ H Q I ?_⟩
  obtain ⟨β, S, ρ, rl, en, w⟩ := h
  refine ⟨β, S, ρ, rl, en, ?_⟩
  have e : mKF x f1 f2 m1 m2 ρ S = (mCons m1 (mCons m2 mNil) ρ S).bind fun ds S1 => match ds with
    | [d1, d2] => .ok ⟨x, [(f2, d2), (f1, d1)]⟩ S1
    | _ => .stuck := by
    unfold mKF mCons mNil
    cases q1 : m1 ρ S with
    | ok d1 S1 =>
      cases q2 : m2 ρ S1 with
      | ok d2 S2 => simp only [R.bind, q2]
      | ex z S2 => simp only [R.bind, q2]
      | stuck => simp only [R.bind, q2]
    | ex z S1 => simp only [R.bind]
    | stuck => simp only [R.bind]
  rw [e] at w
  refine (Po.bind w).mono fun ds β1 S1 H1 x1 r1 q1 vs hv => ?_
  match ds, q1, hv with
  | [d1, d2], q1, hv =>
    obtain ⟨v1, v2, rfl, g1, g2⟩ := hv.two
    refine ⟨by simp, fun a na => ⟨a, C, v1, v2, rfl, T, h1, h2, upd_same, fun dx n ne => ⟨rfl, dx, [(f2, v2), (f1, v1)], by rw [upd_ne (Ne.symm ne), upd_same], upd_same, by rw [upd_ne ne] at n; exact n, ?_⟩⟩⟩
    have nd : H1 dx = none := by rw [upd_ne ne] at n; exact n
    have eH : upd (del (upd (upd (upd (upd H1 a (exo a C none)) dx (exd dx [(f1, v1)])) a (exo a C (some dx))) dx (exd dx [(f2, v2), (f1, v1)])) a) dx (.xd [(f2, v2), (f1, v1)]) = upd H1 dx (.xd [(f2, v2), (f1, v1)]) := by
      funext b
      by_cases hb1 : b = dx
      · rw [hb1, upd_same, upd_same]
      · rw [upd_ne hb1, upd_ne hb1]
        by_cases hb2 : b = a
        · rw [hb2, del_same, na]
        · rw [del_ne hb2, upd_ne hb1, upd_ne hb2, upd_ne hb1, upd_ne hb2]
    rw [eH]
    have xx : Xt X.K β1 H1 β1 (upd H1 dx (.xd [(f2, v2), (f1, v1)])) := xt_new' nd
    exact q1 β1 _ xx (r1.tup nd) (.ref C) (some dx) ⟨C, hm, rfl, .inr ⟨dx, [(f2, v2), (f1, v1)], rfl, by simp, upd_same, .cons ⟨rfl, g2.ext xx⟩ (.cons ⟨rfl, g1.ext xx⟩ .nil)⟩⟩
  | [], q1, hv => exact q1.elim
  | [_], q1, hv => exact q1.elim
  | _ :: _ :: _ :: _, q1, hv => exact q1.elim
@[simp] theorem ev_mkf {ρ : Env'} {S : Sto} {c : Str} : mKF c f1 f2 m1 m2 ρ S = (m1 ρ S).bind fun d1 S1 => (m2 ρ S1).bind fun d2 S2 => .ok ⟨c, [(f2, d2), (f1, d1)]⟩ S2 := rfl
end
end Eng

set_option maxHeartbeats 2000000
/-! The engine, part 37: fields of exceptions read, isinstance of those with fields. -/
namespace Eng
open PySem PySem.Spec PyProof.Rows L2
theorem pe_or {X : Cx} {e : Expr} {t u : TE} (h1 : PE X e t) (h2 : PE X e u) : PE X e (fun σ H Q => t σ H Q ∨ u σ H Q) :=
  ⟨fun pins s σ H Q I h => h.elim (h1.run pins s σ H Q I) (h2.run pins s σ H Q I)⟩
/-- what stands at a caught exception that is tracked -/
theorem exo_inst {X : Cx} {pins : List (Addr × Obj)} {σ : L2.St} {H : Hp} {s : Shared} {a C : Addr} {od : Option Addr} (I : Inv X pins σ H s) (h : H a = some (exoH a (.ref C) od)) : ∃ (oe : Obj) (vs : Array Value), s.heap.get? a = some oe ∧ Zc (.ref C) od oe ∧ oe.data = .fields vs := by
  have z : ObjOk X.prog X.w H s.heap a (.ext fun h => ∃ (oe : Obj) (vs : Array Value), h.get? a = some oe ∧ Zc (.ref C) od oe ∧ oe.data = .fields vs) := I.hok a _ h
  exact z.1
def tXfe (K : PySem.W.Frag) (n : Str) (te : TE) : TE := fun σ H Q => te σ H fun x H1 => ∃ (a C dd : Addr) (fs : List (Str × V)) (v : V), x = .ref a ∧ H1 a = some (exoH a (.ref C) (some dd)) ∧ XfC K C ∧ PySem.W.findIn K (.ref C) n = some none ∧ H1 dd = some (.xd fs) ∧ fs.lookup n = some v ∧ Q v H1
theorem pe_xfe {X : Cx} {e : Expr} {te : TE} {pos : Pos} {n : Str} (he : PE X e te) (hb : attributeBase e n X.env (eval e X.env) = eval e X.env := by rfl) : PE X (.Attribute e n pos) (tXfe X.K n te) := by
  refine ⟨fun pins s σ H Q I h => ?_⟩
  refine attr_of hb (thn (he.run pins s σ H _ I h) fun u s1 hh => ?_)
  obtain ⟨x, H1, I1, rx, a, C, dd, fs, v, ex, ha, T, hno, ea, l, q⟩ := hh
  subst ex
  obtain rfl : u = Value.ref a := rx
  obtain ⟨oe, vs, g1, hz, hd⟩ := exo_inst I1 ha
  have hx : ObjOk X.prog X.w H1 s1.heap dd (.xd fs) := I1.hok dd _ ea
  obtain ⟨mA, hns, hr⟩ := hx
  obtain ⟨od, ho, hl⟩ := lookIn_ns hns
  obtain ⟨u, hu, ru⟩ := RelO.some_of (v := v) (o := mA n) (by rw [← l]; exact hr n)
  have J : PySem.W.InstAt s1.heap a oe C (some od) := ⟨g1, hz.1, by unfold PySem.W.notCls; rw [hd] <;> rfl, by rw [hz.2]; exact ho⟩
  exact HandSPX.exc_get I1.kIn J T.ga T.gg T.exC (PySem.W.findObj_own T.hdC hno rfl (by rw [hl, hu])) (handed_of ru) ⟨v, H1, I1.tok _, ru, q⟩
/-- the classes of exceptions with fields of their own, and these -/
abbrev XfT := List (Str × Str)
def XfOk (K : PySem.W.Frag) (mg : Str → Option Value) (t : XfT) : Prop := ∀ p ∈ t, ∀ C, mg p.1 = some (.ref C) → XfC K C ∧ PySem.W.findIn K (.ref C) p.2 = some none
theorem xf_nil {K : PySem.W.Frag} {mg : Str → Option Value} : XfOk K mg [] := fun _ h => nomatch h
theorem xf_cons {K : PySem.W.Frag} {mg : Str → Option Value} {c f : Str} {C : Addr} {t : XfT} (hm : mg c = some (.ref C)) (x : ExcC K C) (h : PySem.W.findIn K (.ref C) f = some none) (r : XfOk K mg t) : XfOk K mg ((c, f) :: t) := fun p hp D hD => by
  rcases List.mem_cons.mp hp with rfl | hp
  · have e : (c, f).1 = c := rfl
    rw [e, hm] at hD
    cases hD
    exact ⟨⟨x.hg, x.hk, x.hs, x.hd⟩, h⟩
  · exact r p hp D hD
variable [TabCfg]
def fldX (t : XfT) (f : Str) (d : D) (S : Sto) : R D := match d with
  | .ref n => match S[n]? with
    | some (.exn C fs) => if (C, f) ∈ t then R.ofO ((fs.lookup f).map fun d => (d, S)) else .stuck
    | _ => fldD f d S
  | _ => .stuck
def mFldX (t : XfT) (m : Mx) (f : Str) : Mx := fun ρ S => (m ρ S).bind (fldX t f)
section
variable {X : Cx} {W : WX} {pos p : Pos} {e o : Expr} {m : Mx} {f : Str} {t : XfT}
theorem me_fldx (T : XfOk X.K X.mg t) (he : ME X W e m) (hb : attributeBase e f X.env (eval e X.env) = eval e X.env := by rfl) : ME X W (.Attribute e f pos) (mFldX t m f) := by
  refine ⟨PE.weak (pe_or (pe_fld he.pe hb) (pe_xfe he.pe hb)) fun σ H Q ⟨β, S, ρ, rl, en, p⟩ => ?_⟩
  have hp := (show Po X.K X.mg W σ β H ((m ρ S).bind (fldX t f)) _ from p).bind
  cases e0 : m ρ S with
  | stuck => rw [e0] at hp; exact hp.elim
  | ex z S1 =>
    rw [e0] at hp
    exact .inl ⟨β, S, ρ, rl, en, by rw [e0]; exact hp⟩
  | ok d S1 =>
    rw [e0] at hp
    -- by what the store holds
    by_cases hx : ∃ n C fs, d = .ref n ∧ S1[n]? = some (.exn C fs)
    · obtain ⟨n, C, fs, rfl, q1⟩ := hx
      refine .inr ⟨β, S, ρ, rl, en, ?_⟩
      rw [e0]
      intro β1 H1 x1 r1 v hv
      have q := hp β1 H1 x1 r1
      obtain ⟨a, rfl, h1⟩ := hv.ref_inv
      unfold fldX at q
      dsimp only at q
      rw [q1] at q
      dsimp only at q
      split at q
      · rename_i hmem
        cases e2 : fs.lookup f with
        | none => rw [e2] at q; exact q.elim
        | some d =>
          rw [e2] at q
          obtain ⟨Ca, od, g1, g2, g3⟩ := r1.at' n a _ h1 q1
          obtain ⟨T1, T2⟩ := T _ hmem Ca g1
          rcases g3 with ⟨rfl, _⟩ | ⟨dd, xs, rfl, _, g4, g5⟩
          · cases e2
          · obtain ⟨w, g6, g7⟩ := g5.look e2
            exact ⟨a, Ca, dd, xs, w, rfl, g2, T1, T2, g4, g6, q β1 H1 .refl r1 w g7⟩
      · exact q.elim
    · refine .inl ⟨β, S, ρ, rl, en, ?_⟩
      rw [e0]
      intro β1 H1 x1 r1 v hv
      have q := hp β1 H1 x1 r1
      cases d with
      | ref n =>
        obtain ⟨a, rfl, h1⟩ := hv.ref_inv
        unfold fldX at q
        dsimp only at q
        cases e1 : S1[n]? with
        | none => rw [e1] at q; unfold fldD at q; dsimp only at q; rw [e1] at q; exact q.elim
        | some ob =>
          rw [e1] at q
          cases ob with
          | exn C fs => exact absurd ⟨n, C, fs, rfl, e1⟩ hx
          | ins C fs =>
            dsimp only at q
            unfold fldD at q
            dsimp only at q
            rw [e1] at q
            dsimp only at q
            cases e2 : fs.lookup f with
            | none => rw [e2] at q; exact q.elim
            | some d =>
              rw [e2] at q
              obtain ⟨Ca, dx, xs, g1, g2, g3, g4, g5⟩ := ins_of r1 h1 e1
              obtain ⟨w, g6, g7⟩ := g3.look e2
              obtain ⟨pp, g8, g9⟩ := mem_of_look e2
              exact ⟨a, Ca, dx, xs, w, rfl, g2, g4, by rw [← g9]; exact g5 pp g8, g6, q β1 H1 .refl r1 w g7⟩
          | _ => unfold fldD at q; dsimp only at q; rw [e1] at q; exact q.elim
      | _ => exact q.elim
end
/-! ### isinstance of a caught exception with fields -/
def rIsY (K : PySem.W.Frag) : List V → Hp → VK → Prop := fun xs H Q => ∃ (a C : Addr) (od : Option Addr) (c : V) (cv : Value) (b : Bool), xs = [.ref a, c] ∧ H a = some (exoH a (.ref C) od) ∧ (∀ dd, od = some dd → ∃ fs : List (Str × V), H dd = some (.xd fs)) ∧ ExcC K C ∧ (∀ u, RelV c u → u = cv) ∧ PySem.W.kitOne K (.ref C) cv = some b ∧ Q (.bl b) H
theorem call_isY {X : Cx} : CallR X (.builtin "isinstance") (rIsY X.K) := by
  intro pins s σ H xs us Q I r h
  obtain ⟨a, C, od, c, cv, b, rfl, ha, hdd, T, hcv, e, q⟩ := h
  cases r with
  | cons rx rr =>
    cases rr with
    | cons rt rr =>
      cases rr
      cases rx
      have ec := hcv _ rt
      subst ec
      obtain ⟨oe, vs, hget, ⟨z1, z2⟩, hd⟩ := exo_inst I ha
      have hn : PySem.W.notCls oe = true := by unfold PySem.W.notCls; rw [hd] <;> rfl
      obtain ⟨uo, J⟩ : ∃ uo, PySem.W.InstAt s.heap a oe C uo := by
        cases od with
        | none => exact ⟨none, ⟨hget, z1, hn, by rw [z2]; trivial⟩⟩
        | some dd =>
          obtain ⟨fs, hfs⟩ := hdd dd rfl
          have hx : ObjOk X.prog X.w H s.heap dd (.xd fs) := I.hok dd _ hfs
          obtain ⟨mA, hns, hr⟩ := hx
          obtain ⟨ob, ho, hl⟩ := lookIn_ns hns
          exact ⟨some ob, ⟨hget, z1, hn, by rw [z2]; exact ho⟩⟩
      have hcl : (PySem.W.clsIn X.K C).isSome = true := by
        have := T.hd
        unfold PySem.W.hasDictIn at this
        cases q : PySem.W.clsIn X.K C with
        | none => rw [q] at this; cases this
        | some cd => rfl
      exact PySem.W.kia_one (PySem.W.kitx_exc hcl T.hg T.hk T.hs T.ha T.hn T.ht T.hm) I.kIn J e (fun z => nomatch z) fun tk => ⟨.bl b, H, I.kept (t' := tk) fun _ _ z => z, rfl, q⟩
def fIsY (isa : IsaT) (isaT : Str → String → Option Bool) : FA
  | [.ref n, .gl c], S => match S[n]? with
    | some (.exn y _) => (isa y c).map fun b => (.bl b, S)
    | _ => none
  | [.ref n, .ty c], S => match S[n]? with
    | some (.exn y _) => (isaT y c).map fun b => (.bl b, S)
    | _ => fIsi [.ref n, .ty c] S
  | [.non, .gl _], _ => none
  | ds, S => fIsi ds S
section
variable {X : Cx} {W : WX} {pos p : Pos} {isa : IsaT} {isaT : Str → String → Option Bool}
theorem o_isY (T : IsaOk X.K X.mg isa isaT) : OpA X (fun xs H Q => rIsY X.K xs H Q ∨ rIsi X.K xs H Q) (fIsY isa isaT) := by
  intro β H S xs vs d S' Q r hv e k
  have base : fIsi xs S = some (d, S') → rIsY X.K vs H Q ∨ rIsi X.K vs H Q := fun e => .inr (o_isi β H S xs vs d S' Q r hv e k)
  have bare : ∀ {n : Nat} {y : Str} {fs : List (Str × D)} {v : V}, Vd X.K X.mg β H v (.ref n) → S[n]? = some (.exn y fs) → ∃ a Ca od, v = .ref a ∧ X.mg y = some (.ref Ca) ∧ H a = some (exoH a (.ref Ca) od) ∧ ∀ dd, od = some dd → ∃ fs : List (Str × V), H dd = some (.xd fs) := by
    intro n y fs v h1 q
    obtain ⟨a, rfl, h3⟩ := h1.ref_inv
    obtain ⟨Ca, od, h4, h5, h6⟩ := r.at' n a _ h3 q
    refine ⟨a, Ca, od, rfl, h4, h5, fun dd e => ?_⟩
    rcases h6 with ⟨_, h7⟩ | ⟨d', xs, h7, _, h8, _⟩
    · rw [h7] at e; cases e
    · rw [h7] at e
      cases e
      exact ⟨xs, h8⟩
  unfold fIsY at e
  split at e
  · rename_i n c
    obtain ⟨v, w, rfl, h1, h2⟩ := hv.two
    split at e
    · rename_i y fs q
      cases q2 : isa y c with
      | none => rw [q2] at e; cases e
      | some b =>
        rw [q2] at e
        cases e
        obtain ⟨a, Ca, od, rfl, h4, h5, h6⟩ := bare h1 q
        cases h2 with
        | gl h7 => exact .inl ⟨a, Ca, od, _, _, b, rfl, h5, h6, T.exc _ _ _ _ q2 h4, fun u ru => ru, T.kit _ _ _ _ _ q2 h4 h7, k β H _ .refl r (.bl b)⟩
    · cases e
  · rename_i n c
    obtain ⟨v, w, rfl, h1, h2⟩ := hv.two
    split at e
    · rename_i y fs q
      cases q2 : isaT y c with
      | none => rw [q2] at e; cases e
      | some b =>
        rw [q2] at e
        cases e
        obtain ⟨a, Ca, od, rfl, h4, h5, h6⟩ := bare h1 q
        cases h2 with
        | ty => exact .inl ⟨a, Ca, od, _, _, b, rfl, h5, h6, T.excT _ _ _ _ q2 h4, fun u ru => ru, T.kitT _ _ _ _ q2 h4, k β H _ .refl r (.bl b)⟩
    · exact base e
  · cases e
  · exact base e
theorem me_isy {e c : Expr} {m mc : Mx} (T : IsaOk X.K X.mg isa isaT) (hm : X.mg "isinstance" = none) (ha : ME X W e m) (hc : ME X W c mc) (hg : Gl X "isinstance" := by rfl) (hs : starEach [e, c] X.env = [(false, eval e X.env), (false, eval c X.env)] := by rfl) (hs2 : starEach [c] X.env = [(false, eval c X.env)] := by rfl) :
    ME X W (.Call (.Name "isinstance" p) [e, c] [] pos) (mCB (fIsY isa isaT) (mCons m (mCons mc mNil))) :=
  me_cb (CallR.or call_isY call_isi) (o_isY T) (ma_cons ha (ma_cons hc ma_nil hs2) (by rw [hs, hs2])) hm (by decide +kernel) hg (by decide) (by decide) (by rw [hs, hs2]) (by rw [hs2]; rfl)
end
/-! rows for simp -/
section
variable {ρ : Env'} {S : Sto} {m : Mx} {c f y : Str} {isa : IsaT} {isaT : Str → String → Option Bool} {n : Nat} {t : XfT}
@[simp] theorem ev_fldx : mFldX t m f ρ S = (m ρ S).bind (fldX t f) := rfl
@[simp] theorem fldX_ref : fldX t f (.ref n) S = match S[n]? with
    | some (.exn C fs) => if (C, f) ∈ t then R.ofO ((fs.lookup f).map fun d => (d, S)) else .stuck
    | _ => fldD f (.ref n) S := rfl
@[simp] theorem fIsY_gl : fIsY isa isaT [.ref n, .gl c] S = match S[n]? with
    | some (.exn y _) => (isa y c).map fun b => (.bl b, S)
    | _ => none := rfl
@[simp] theorem fIsY_ty {t : String} : fIsY isa isaT [.ref n, .ty t] S = match S[n]? with
    | some (.exn y _) => (isaT y t).map fun b => (.bl b, S)
    | _ => fIsi [.ref n, .ty t] S := rfl
@[simp] theorem fIsY_non {t : String} : fIsY isa isaT [.non, .ty t] S = fIsi [.non, .ty t] S := rfl
@[simp] theorem fIsY_int {i : Int} {t : String} : fIsY isa isaT [.int i, .ty t] S = fIsi [.int i, .ty t] S := rfl
@[simp] theorem fIsY_bl {i : Bool} {t : String} : fIsY isa isaT [.bl i, .ty t] S = fIsi [.bl i, .ty t] S := rfl
@[simp] theorem fIsY_str {i : Str} {t : String} : fIsY isa isaT [.str i, .ty t] S = fIsi [.str i, .ty t] S := rfl
@[simp] theorem fIsY_tup {i : List D} {t : String} : fIsY isa isaT [.tup i, .ty t] S = fIsi [.tup i, .ty t] S := rfl
end
end Eng

set_option maxHeartbeats 2000000
/-! The engine, part 38: sum of a list, xs.clear(), xs.reverse(). -/
namespace Eng
open PySem PySem.Spec PyProof.Rows L2
variable [TabCfg]
def intsOf : List D → Option (List Int)
  | [] => some []
  | .int i :: r => (intsOf r).map (i :: ·)
  | _ => none
theorem intsOf_is : ∀ {ds : List D} {ns : List Int}, intsOf ds = some ns → ds = ns.map D.int
  | [], ns, h => by cases h; rfl
  | .int i :: r, ns, h => by
    unfold intsOf at h
    cases q : intsOf r with
    | none => rw [q] at h; cases h
    | some ms =>
      rw [q] at h
      cases h
      rw [intsOf_is q]
      rfl
@[simp] theorem intsOf_map : ∀ ns : List Int, intsOf (ns.map D.int) = some ns
  | [] => rfl
  | n :: r => by rw [List.map_cons, intsOf, intsOf_map r]; rfl
theorem vds_ints2 {K : PySem.W.Frag} {mg : Str → Option Value} {β : List Addr} {H : Hp} : ∀ {ns : List Int} {vs : List V}, Vds K mg β H vs (ns.map D.int) → vs = ns.map V.int
  | [], _, .nil => rfl
  | n :: r, _, .cons h t => by
    cases h
    rw [vds_ints2 t]
    rfl
def fSum : FA
  | [.ref n], S => (lstAt S n).bind fun ds => (intsOf ds).map fun ns => (.int ns.sum, S)
  | _, _ => none
theorem o_sum {X : Cx} : OpA X (rSum X.K) fSum := by
  intro β H S xs vs d S' Q r hv e k
  match xs, e, hv with
  | [.ref n], e, hv =>
    obtain ⟨v, rfl, h⟩ := hv.one
    obtain ⟨a, rfl, h1⟩ := h.ref_inv
    unfold fSum at e
    dsimp only at e
    cases q : lstAt S n with
    | none => rw [q] at e; cases e
    | some ds =>
      rw [q] at e
      cases q2 : intsOf ds with
      | none => rw [Option.bind_some, q2] at e; cases e
      | some ns =>
        rw [Option.bind_some, q2] at e
        cases e
        obtain ⟨us, k1, k2⟩ := lst_read r h1 q
        rw [intsOf_is q2] at k2
        rw [vds_ints2 k2] at k1
        exact ⟨a, ns, rfl, k1, k β H _ .refl r (.int _)⟩
section
variable {X : Cx} {W : WX} {pos apos p : Pos} {e o : Expr} {m mo : Mx}
theorem me_sum (hc : X.calm = true) (hm : X.mg "sum" = none) (ha : ME X W e m) (hg : Gl X "sum" := by rfl) (hs : starEach [e] X.env = [(false, eval e X.env)] := by rfl) : ME X W (.Call (.Name "sum" p) [e] [] pos) (mCB fSum (mCons m mNil)) :=
  me_cb (cr_sum hc) o_sum (ma_cons ha ma_nil hs) hm (by decide +kernel) hg (by decide) (by decide) hs rfl
def fLw (g : List D → List D) : FM
  | .ref n, [], S => match S[n]? with
    | some (.lst xs) => some (.non, S.set n (.lst (g xs)))
    | _ => none
  | _, _, _ => none
abbrev fClear : FM := fLw fun _ => []
abbrev fRevl : FM := fLw List.reverse
theorem Vds.revs {K : PySem.W.Frag} {mg : Str → Option Value} {β : List Addr} {H : Hp} {vs : List V} {ds : List D} (h : Vds K mg β H vs ds) : Vds K mg β H vs.reverse ds.reverse := by
  induction vs generalizing ds with
  | nil => cases h; exact .nil
  | cons v vs ih =>
    cases h with
    | cons h t =>
      rw [List.reverse_cons, List.reverse_cons]
      exact (ih t).append (.cons h .nil)
theorem o_clear : OpM X "list" ckL rClear fClear := by
  refine ⟨fun β H S o v r h e => ckL_ok r h e, ?_⟩
  intro β H S o v xs vs d S' Q r ho hv e k
  match o, xs, e, ho, hv with
  | .ref n, [], e, ho, hv =>
    obtain ⟨a, rfl, h1⟩ := ho.ref_inv
    cases hv
    unfold fClear fLw at e
    dsimp only at e
    split at e
    · rename_i ds q
      cases e
      obtain ⟨us, h3, h4⟩ := r.lst_at h1 q
      obtain ⟨r', x'⟩ := r.write (o := .lst []) (b' := .lst []) h1 q rfl rfl fun x => ⟨_, upd_same, .nil⟩
      exact ⟨a, us, rfl, rfl, h3, k β _ _ x' r' .non⟩
    · cases e
theorem o_revl : OpM X "list" ckL rReverse fRevl := by
  refine ⟨fun β H S o v r h e => ckL_ok r h e, ?_⟩
  intro β H S o v xs vs d S' Q r ho hv e k
  match o, xs, e, ho, hv with
  | .ref n, [], e, ho, hv =>
    obtain ⟨a, rfl, h1⟩ := ho.ref_inv
    cases hv
    unfold fRevl fLw at e
    dsimp only at e
    split at e
    · rename_i ds q
      cases e
      obtain ⟨us, h3, h4⟩ := r.lst_at h1 q
      obtain ⟨r', x'⟩ := r.write (o := .lst us.reverse) (b' := .lst ds.reverse) h1 q rfl rfl fun x => ⟨_, upd_same, h4.revs.ext x⟩
      exact ⟨a, us, rfl, rfl, h3, k β _ _ x' r' .non⟩
    · cases e
theorem me_clear (ho : ME X W o mo) (hbase : attributeBase o "clear" X.env (eval o X.env) = eval o X.env := by rfl) (hline : (apos.endLine == pos.line) = true := by rfl) : ME X W (.Call (.Attribute o "clear" apos) [] [] pos) (mBM ckL fClear mo mNil) :=
  me_bm0 PySem.F.plainAttrs_list PySem.F.slot_list_clear PySem.F.type_list_clear mt_clear o_clear ho hbase hline
theorem me_revl (ho : ME X W o mo) (hbase : attributeBase o "reverse" X.env (eval o X.env) = eval o X.env := by rfl) (hline : (apos.endLine == pos.line) = true := by rfl) : ME X W (.Call (.Attribute o "reverse" apos) [] [] pos) (mBM ckL fRevl mo mNil) :=
  me_bm0 PySem.F.plainAttrs_list PySem.F.slot_list_reverse PySem.F.type_list_reverse mt_reverse o_revl ho hbase hline
@[simp] theorem ev_sum {n : Nat} {S : Sto} : fSum [.ref n] S = (lstAt S n).bind fun ds => (intsOf ds).map fun ns => (.int ns.sum, S) := rfl
@[simp] theorem ev_lw {g : List D → List D} {n : Nat} {S : Sto} : fLw g (.ref n) [] S = match S[n]? with
    | some (.lst xs) => some (.non, S.set n (.lst (g xs)))
    | _ => none := rfl
end
end Eng

set_option maxHeartbeats 2000000
/-! The engine, part 39: a, b = (x, y) with plain names. -/
namespace Eng
open PySem PySem.Spec PyProof.Rows L2
variable [TabCfg]
section
variable {X : Cx} {W : WX} {pos : Pos} {i j : Nat} {x y : Str} {a b : Expr} {ma mb : Mx} {px py pt : Pos} {kt k2 : Nat} {pt2 : Pos}
theorem ms_par (hN : X.N.Nodup) (ha : ME X W a ma) (hb : ME X W b mb) (hi : X.N[i]? = some x := by rfl) (hj : X.N[j]? = some y := by rfl) (hij : i ≠ j := by decide)
    (hx : X.env.scope.names.lookup x = some .local := by rfl) (hy : X.env.scope.names.lookup y = some .local := by rfl) (hc : X.calm = true := by rfl)
    (hw : swappedStores [.Tuple [.Name x px, .Name y py] kt pt] (.Tuple [a, b] k2 pt2) X.env = pure (some [x, y]) := by rfl)
    (hs : swapsWithSole [.Tuple [.Name x px, .Name y py] kt pt] (.Tuple [a, b] k2 pt2) pos.line X.env = pure false := by rfl)
    (h1 : starEach [a, b] X.env = (false, eval a X.env) :: starEach [b] X.env := by rfl) (h2 : starEach [b] X.env = (false, eval b X.env) :: starEach [] X.env := by rfl) :
    MS X W (.Assign [.Tuple [.Name x px, .Name y py] kt pt] (.Tuple [a, b] k2 pt2) pos) (sAsgT (mTup (mCons ma (mCons mb mNil))) (fNames [i, j])) := by
  refine ⟨PS.weak (ps_par hc hN hi hj hij hx hy (ma_cons ha (ma_cons hb ma_nil h2) h1).pa hw hs) fun Z σ H ⟨β, S, ρ, rl, en, p⟩ => ⟨β, S, ρ, rl, en, ?_⟩⟩
  refine (Po.bind (PoS.st p en)).mono fun ds β1 S1 H1 x1 r1 q vs hv => ?_
  have no : ∀ ds : List Eng.D, ds.length ≠ 2 → Po X.K X.mg W σ β1 H1 (if ds.length ≤ sizeLine then R.ok (Eng.D.tup ds) S1 else R.stuck) (fun d β' S H' => PoS X.K X.mg W β' H' (match fNames [i, j] d ρ with
      | some ρ' => RS.fl (Fl.nx ρ') S
      | none => RS.stuck) Z) → False := fun ds hd q => by
    by_cases hs : ds.length ≤ sizeLine
    · rw [if_pos hs] at q
      have q := q β1 H1 .refl r1
      have e : fNames [i, j] (.tup ds) ρ = none := if_neg hd
      dsimp only at q
      rw [e] at q
      exact q.elim
    · rw [if_neg hs] at q
      exact q.elim
  match ds, q, hv with
  | [d1, d2], q, hv =>
    obtain ⟨v1, v2, rfl, g1, g2⟩ := hv.two
    rw [if_pos (by rw [sizeLine_eq]; simp)] at q
    exact ⟨v1, v2, rfl, q β1 H1 .refl r1 β1 H1 _ .refl r1 (((en.ext x1).set i g1).set j g2)⟩
  | [], q, hv => exact (no _ (by decide) q).elim
  | [_], q, hv => exact (no _ (by simp) q).elim
  | _ :: _ :: _ :: _, q, hv => exact (no _ (by simp) q).elim
end
end Eng

/-! The engine, part 40: what a run comes to, told by what is wished behind it. -/
namespace Eng
open PySem PySem.Spec PyProof.Rows L2
variable [TabCfg]
/-- what hangs on a, b, c: so that simp leaves them alone -/
inductive Tg {α β γ : Type} (a : α) (b : β) (c : γ) : Type where
  | mk
/-- behind a block: it goes on, it returned, it raised -/
def Wp (r : RS) (N : Env' → Sto → Prop) (R : D → Sto → Prop) (X : Exn → Env' → Sto → Prop) (_ : Tg N R X := .mk) : Prop := match r with
  | .fl (.nx ρ) S => N ρ S
  | .fl (.rt d) S => R d S
  | .ex x ρ S => X x ρ S
  | .stuck => False
/-- behind an expression -/
def We {α : Type} (r : R α) (Q : α → Sto → Prop) (X : Exn → Sto → Prop) (_ : Tg Q X () := .mk) : Prop := match r with
  | .ok a S => Q a S
  | .ex x S => X x S
  | .stuck => False
def Wo {β : Type} (o : Option β) (Q : β → Prop) (_ : Tg Q () () := .mk) : Prop := match o with
  | some b => Q b
  | none => False
def blD : D → Option Bool
  | .bl b => some b
  | _ => none
@[simp] theorem blD_bl {b : Bool} : blD (.bl b) = some b := rfl
@[simp ↓] theorem wo_some {β : Type} {b : β} {Q : β → Prop} : Wo (some b) Q = Q b := rfl
@[simp] theorem wo_none {β : Type} {Q : β → Prop} : Wo none Q = False := rfl
theorem wo_congr {β : Type} {o o' : Option β} {Q : β → Prop} (h : o = o') : Wo o Q = Wo o' Q := by rw [h]
section
variable {α γ : Type} {N : Env' → Sto → Prop} {R0 : D → Sto → Prop} {X : Exn → Env' → Sto → Prop} {Q : α → Sto → Prop} {E : Exn → Sto → Prop} {ρ : Env'} {S : Sto} {a b : Ms} {m : Mx} {k : Nat}
theorem wp_congr {r r' : RS} (h : r = r') : Wp r N R0 X = Wp r' N R0 X := by rw [h]
theorem we_congr {r r' : R α} (h : r = r') : We r Q E = We r' Q E := by rw [h]
@[simp ↓] theorem wp_nx : Wp (.fl (.nx ρ) S) N R0 X = N ρ S := rfl
@[simp ↓] theorem wp_rt {d : D} : Wp (.fl (.rt d) S) N R0 X = R0 d S := rfl
@[simp ↓] theorem wp_ex {x : Exn} : Wp (.ex x ρ S) N R0 X = X x ρ S := rfl
@[simp ↓] theorem we_ok {d : α} : We (.ok d S) Q E = Q d S := rfl
@[simp ↓] theorem we_ex {x : Exn} : We (.ex x S : R α) Q E = E x S := rfl
@[simp ↓] theorem wp_seq : Wp (sSeq a b ρ S) N R0 X = Wp (a ρ S) (fun ρ' S' => Wp (b ρ' S') N R0 X) R0 X := by
  unfold sSeq
  cases a ρ S with
  | fl f S' => cases f <;> rfl
  | ex x ρ' S' => rfl
  | stuck => rfl
theorem wp_st {β : Type} {r : R β} {f : β → Sto → RS} : Wp (r.st ρ f) N R0 X = We r (fun d S' => Wp (f d S') N R0 X) (fun x S' => X x ρ S') := by
  cases r <;> rfl
@[simp ↓] theorem wp_asg : Wp (sAsg k m ρ S) N R0 X = We (m ρ S) (fun d S' => N (ρ.set k (some d)) S') (fun x S' => X x ρ S') := by
  unfold sAsg
  rw [wp_st]
  rfl
@[simp ↓] theorem wp_expr : Wp (sExpr m ρ S) N R0 X = We (m ρ S) (fun _ S' => N ρ S') (fun x S' => X x ρ S') := by
  unfold sExpr
  rw [wp_st]
  rfl
@[simp ↓] theorem wp_ret : Wp (sRet m ρ S) N R0 X = We (m ρ S) R0 (fun x S' => X x ρ S') := by
  unfold sRet
  rw [wp_st]
  rfl
@[simp ↓] theorem wp_sif {t : Mb} : Wp (sIf t a b ρ S) N R0 X = We (t ρ S) (fun c S' => Wp (if c = true then a ρ S' else b ρ S') N R0 X) (fun x S' => X x ρ S') := by
  unfold sIf
  rw [wp_st]
@[simp ↓] theorem wp_ite {c : Prop} [Decidable c] {r r' : RS} : Wp (if c then r else r') N R0 X = if c then Wp r N R0 X else Wp r' N R0 X := by split <;> rfl
@[simp ↓] theorem we_ite {c : Prop} [Decidable c] {r r' : R α} : We (if c then r else r') Q E = if c then We r Q E else We r' Q E := by split <;> rfl
@[simp ↓] theorem we_bind {β : Type} {r : R β} {f : β → Sto → R α} : We (r.bind f) Q E = We r (fun d S' => We (f d S') Q E) E := by
  cases r <;> rfl
@[simp ↓] theorem wp_asgT {f : Ft} : Wp (sAsgT m f ρ S) N R0 X = We (m ρ S) (fun d S' => Wo (f d ρ) fun ρ' => N ρ' S') (fun x S' => X x ρ S') := by
  unfold sAsgT
  rw [wp_st]
  cases m ρ S with
  | ok d S' =>
    show Wp (match f d ρ with | some ρ' => .fl (.nx ρ') S' | none => .stuck) N R0 X = Wo (f d ρ) fun ρ' => N ρ' S'
    cases f d ρ <;> rfl
  | ex x S' => rfl
  | stuck => rfl
@[simp ↓] theorem wp_aug {f : F2} : Wp (sAug k f m ρ S) N R0 X = Wo (ρ[k]?.join) (fun x => We (m ρ S) (fun y S1 => Wo (f x y S1) fun p => N (ρ.set k (some p.1)) p.2) (fun x S' => X x ρ S')) := by
  rw [ev_aug]
  cases ρ[k]? with
  | none => rfl
  | some o => cases o with
    | none => rfl
    | some x =>
      show Wp ((m ρ S).st ρ fun y S1 => match f x y S1 with | some (d, S2) => .fl (.nx (ρ.set k (some d))) S2 | none => .stuck) N R0 X = We (m ρ S) (fun y S1 => Wo (f x y S1) fun p => N (ρ.set k (some p.1)) p.2) (fun x S' => X x ρ S')
      rw [wp_st]
      cases m ρ S with
      | ok d S' =>
        show Wp (match f x d S' with | some (d, S2) => .fl (.nx (ρ.set k (some d))) S2 | none => .stuck) N R0 X = Wo (f x d S') fun p => N (ρ.set k (some p.1)) p.2
        cases f x d S' <;> rfl
      | ex x S' => rfl
      | stuck => rfl
theorem wp_st2 {β : Type} {r : R β} {g : β → Sto → Option Sto} : Wp (r.st ρ fun d S' => match g d S' with | some S2 => .fl (.nx ρ) S2 | none => .stuck) N R0 X = We r (fun d S' => Wo (g d S') fun S2 => N ρ S2) (fun x S' => X x ρ S') := by
  rw [wp_st]
  cases r with
  | ok d S' =>
    show Wp (match g d S' with | some S2 => .fl (.nx ρ) S2 | none => .stuck) N R0 X = Wo (g d S') fun S2 => N ρ S2
    cases g d S' <;> rfl
  | ex x S' => rfl
  | stuck => rfl
@[simp ↓] theorem wp_sfld {cs : List Str} {mo mv : Mx} {f : Str} : Wp (sFld cs mo f mv ρ S) N R0 X = We (mv ρ S) (fun d S1 => We (mo ρ S1) (fun o S2 => Wo (setFld cs f o d S2) fun S3 => N ρ S3) (fun x S' => X x ρ S')) (fun x S' => X x ρ S') := by
  rw [ev_sfld, wp_st]
  cases mv ρ S with
  | ok d S' => exact wp_st2
  | ex x S' => rfl
  | stuck => rfl
@[simp ↓] theorem wp_put {mo mi mv : Mx} : Wp (sPut mo mi mv ρ S) N R0 X = We (mv ρ S) (fun d S1 => We (mo ρ S1) (fun o S2 => We (mi ρ S2) (fun i S3 => Wo (setI o i d S3) fun S4 => N ρ S4) (fun x S' => X x ρ S')) (fun x S' => X x ρ S')) (fun x S' => X x ρ S') := by
  rw [ev_put, wp_st]
  cases mv ρ S with
  | ok d S' =>
    show Wp ((mo ρ S').st ρ _) N R0 X = We (mo ρ S') _ _
    rw [wp_st]
    cases mo ρ S' with
    | ok o S2 => exact wp_st2
    | ex x S' => rfl
    | stuck => rfl
  | ex x S' => rfl
  | stuck => rfl
@[simp ↓] theorem wp_raise {m : Mk'} : Wp (sRaise m ρ S) N R0 X = We (m ρ S) (fun x S' => X x ρ S') (fun x S' => X x ρ S') := by
  unfold sRaise
  rw [wp_st]
  rfl
@[simp ↓] theorem wp_for_ev {mi : Mi} {f : Ft} : Wp (sFor mi f b ρ S) N R0 X = We (mi ρ S) (fun it S' => Wp (forF it f b it.cnt 0 ρ S') N R0 X) (fun x S' => X x ρ S') := by
  unfold sFor
  rw [wp_st]
@[simp ↓] theorem wp_try {isa : IsaT} {hs : List Hd} {els : Ms} : Wp (sTry isa b hs els ρ S) N R0 X = Wp (b ρ S) (fun ρ' S' => Wp (els ρ' S') N R0 X) R0 (fun x ρ' S' => Wp (hRun isa hs x ρ' S') N R0 X) := by
  unfold sTry
  cases b ρ S with
  | fl f S' => cases f <;> rfl
  | ex x ρ' S' => rfl
  | stuck => rfl
@[simp ↓] theorem wp_beh {j : Option Nat} {r : RS} : Wp (behind j r) N R0 X = Wp r (fun ρ' S' => N (slotD j none ρ') S') R0 (fun _ _ _ => False) := by
  unfold behind
  cases r with
  | fl f S' => cases f <;> rfl
  | ex x ρ' S' => rfl
  | stuck => rfl
@[simp ↓] theorem we_asB {r : R D} {Q : Bool → Sto → Prop} : We (asB r) Q E = We r (fun d S' => Wo (blD d) fun b => Q b S') E := by
  cases r with
  | ok d S' => cases d <;> rfl
  | ex x S' => rfl
  | stuck => rfl
@[simp] theorem wp_stuck : Wp .stuck N R0 X = False := rfl
@[simp] theorem we_stuck : We (.stuck : R α) Q E = False := rfl
theorem wp_mono {N' : Env' → Sto → Prop} {R' : D → Sto → Prop} {X' : Exn → Env' → Sto → Prop} {r : RS} (h : Wp r N R0 X) (hn : ∀ ρ S, N ρ S → N' ρ S) (hr : ∀ d S, R0 d S → R' d S) (hx : ∀ x ρ S, X x ρ S → X' x ρ S) : Wp r N' R' X' := by
  cases r with
  | fl f S => cases f with
    | nx ρ => exact hn _ _ h
    | rt d => exact hr _ _ h
  | ex x ρ S => exact hx _ _ _ h
  | stuck => exact h
/-- one step of a block by what it comes to -/
theorem wp_sq (P : Env' → Sto → Prop) (h : Wp (a ρ S) P R0 X) (k : ∀ ρ' S', P ρ' S' → Wp (b ρ' S') N R0 X) : Wp (sSeq a b ρ S) N R0 X := by
  rw [wp_seq]
  exact wp_mono h k (fun _ _ z => z) fun _ _ _ z => z
theorem We.mono {Q' : α → Sto → Prop} {E' : Exn → Sto → Prop} {r : R α} (h : We r Q E) (hq : ∀ d S, Q d S → Q' d S) (hx : ∀ x S, E x S → E' x S) : We r Q' E' := by
  cases r with
  | ok d S => exact hq _ _ h
  | ex x S => exact hx _ _ h
  | stuck => exact h
/-- no exception comes -/
theorem We.on {Q' : α → Sto → Prop} {E' : Exn → Sto → Prop} {r : R α} (h : We r Q fun _ _ => False) (hq : ∀ d S, Q d S → Q' d S) : We r Q' E' := h.mono hq fun _ _ z => z.elim
theorem We.ok {r : R α} (h : We r Q fun _ _ => False) : ∃ d S, r = .ok d S ∧ Q d S := by
  cases r with
  | ok d S => exact ⟨d, S, rfl, h⟩
  | ex x S => exact h.elim
  | stuck => exact h.elim
theorem We.of {r : R α} {d : α} {S : Sto} (h : r = .ok d S) (q : Q d S) : We r Q E := by rw [h]; exact q
theorem We.cases {r : R α} (h : We r Q E) : (∃ d S, r = .ok d S ∧ Q d S) ∨ ∃ x S, r = .ex x S ∧ E x S := by
  cases r with
  | ok d S => exact .inl ⟨d, S, rfl, h⟩
  | ex x S => exact .inr ⟨x, S, rfl, h⟩
  | stuck => exact h.elim
theorem we_def {c : Nat} {ds : List D} {Q : D → Sto → Prop} (h : Wp (b (ds.map some ++ List.replicate (c - ds.length) none) S) (fun _ S' => Q .non S') Q (fun x _ S' => E x S')) : We (mDef c b ds S) Q E := by
  unfold mDef
  generalize b (ds.map some ++ List.replicate (c - ds.length) none) S = r at *
  cases r with
  | fl f S' => cases f <;> exact h
  | ex x ρ' S' => exact h
  | stuck => exact h
/-- for, by an invariant -/
theorem wp_for {it : ItD} {f : Ft} (P : Nat → Env' → Sto → Prop) (h0 : P 0 ρ S) (step : ∀ i ρ S, i < it.cnt → P i ρ S → ∃ d, it.nx i S = some d ∧ ∃ ρ1, f d ρ = some ρ1 ∧ Wp (b ρ1 S) (P (i + 1)) R0 X)
    (fin : ∀ ρ S, P it.cnt ρ S → it.fin S = true) (done : ∀ ρ S, P it.cnt ρ S → N ρ S) : Wp (forF it f b it.cnt 0 ρ S) N R0 X := by
  have key : ∀ n i ρ S, i + n = it.cnt → P i ρ S → Wp (forF it f b n i ρ S) N R0 X := by
    intro n
    induction n with
    | zero =>
      intro i ρ S hi h
      have e : i = it.cnt := by omega
      subst e
      rw [forF_nil (fin ρ S h)]
      exact done _ _ h
    | succ n ih =>
      intro i ρ S hi h
      obtain ⟨d, e1, ρ1, e2, w⟩ := step i ρ S (by omega) h
      rw [forF_cons e1 e2]
      generalize b ρ1 S = r at *
      cases r with
      | fl g S2 => cases g with
        | nx ρ2 => exact ih (i + 1) ρ2 S2 (by omega) w
        | rt d2 => exact w
      | ex x ρ2 S2 => exact w
      | stuck => exact w
  exact key it.cnt 0 ρ S (by omega) h0
theorem wp_while {c : Mb} (P : Nat → Env' → Sto → Prop) (n : Nat) (h0 : P n ρ S) (step : ∀ n ρ S, P n ρ S → We (c ρ S) (fun k S1 => if k = true then Wp (b ρ S1) (fun ρ' S' => ∃ m, m < n ∧ P m ρ' S') R0 X else N ρ S1) (fun x S1 => X x ρ S1)) : Wp (sWhile c b ρ S) N R0 X := by
  have key : ∀ n ρ S, P n ρ S → ∃ j, Wp (whileF c b j ρ S) N R0 X := by
    intro n
    induction n using Nat.strongRecOn with
    | _ n ih =>
      intro ρ S h
      have w := step n ρ S h
      generalize hc : c ρ S = r at w
      cases r with
      | ok k S1 =>
        cases k with
        | false =>
          refine ⟨1, ?_⟩
          rw [whileF, hc]
          exact w
        | true =>
          have w' : Wp (b ρ S1) (fun ρ' S' => ∃ m, m < n ∧ P m ρ' S') R0 X := w
          generalize hb : b ρ S1 = r at w'
          cases r with
          | fl g S2 => cases g with
            | nx ρ2 =>
              obtain ⟨m, hm, hp⟩ := w'
              obtain ⟨j, hj⟩ := ih m hm ρ2 S2 hp
              refine ⟨j + 1, ?_⟩
              rw [whileF, hc]
              simp only [R.st, if_true, hb]
              exact hj
            | rt d =>
              refine ⟨1, ?_⟩
              rw [whileF, hc]
              simp only [R.st, if_true, hb]
              exact w'
          | ex x ρ2 S2 =>
            refine ⟨1, ?_⟩
            rw [whileF, hc]
            simp only [R.st, if_true, hb]
            exact w'
          | stuck => exact w'.elim
      | ex x S1 =>
        refine ⟨1, ?_⟩
        rw [whileF, hc]
        exact w
      | stuck => exact w.elim
  obtain ⟨j, hj⟩ := key n ρ S h0
  rw [sWhile_eq (n := j) rfl (by intro e; rw [e] at hj; exact hj)]
  exact hj
/-- [m for ..] by an invariant; the list stands at n -/
theorem we_lc {it : ItD} {f : Ft} {mt : Mb} {n : Nat} {Q : D → Sto → Prop} (P : Nat → Sto → Prop) (h0 : P 0 S) (step : ∀ i S, i < it.cnt → P i S → ∃ d, it.nx i S = some d ∧ ∃ ρ1, f d ρ = some ρ1 ∧
      ∃ k S1, mt ρ1 S = .ok k S1 ∧ if k = true then We (m ρ1 S1) (fun y S2 => ∃ acc, S2[n]? = some (.lst acc) ∧ acc.length < 16777216 ∧ P (i + 1) (S2.set n (.lst (acc ++ [y])))) (fun _ _ => False) else P (i + 1) S1)
    (fin : ∀ S, P it.cnt S → it.fin S = true) (done : ∀ S, P it.cnt S → Q (.ref n) S) : We (lcF it f mt m ρ n it.cnt 0 S) Q E := by
  obtain ⟨S', e, p⟩ := lc_inv (it := it) (f := f) (mt := mt) (m := m) (ρ := ρ) (n := n) P (fun i S hi hp => by
    obtain ⟨d, e1, ρ1, e2, k, S1, e3, w⟩ := step i S hi hp
    refine ⟨d, ρ1, e1, e2, ?_⟩
    cases k with
    | false => exact .inl ⟨S1, e3, w⟩
    | true =>
      obtain ⟨y, S2, e4, acc, e5, e6, e7⟩ := We.ok (show We (m ρ1 S1) _ _ from w)
      exact .inr ⟨S1, y, S2, acc, e3, e4, e5, e6, e7⟩) fin h0
  rw [e]
  exact done _ p
end
end Eng

/-! The engine, part 41: comprehensions that only add to the store; lists of truths compared. -/
namespace Eng
open PySem PySem.Spec PyProof.Rows L2
variable [TabCfg]
section
variable {ρ : Env'} {S : Sto} {mi : Mi} {f : Ft} {mt : Mb} {m : Mx} {own : List Nat} {n : Nat} {r : List Nat}
@[simp] theorem wipeD_nil : wipeD ρ [] = ρ := rfl
@[simp] theorem wipeD_cons : wipeD ρ (n :: r) = (wipeD ρ r).set n none := rfl
@[simp ↓] theorem we_mlc {Q : D → Sto → Prop} {E : Exn → Sto → Prop} : We (mLc mi f mt m own ρ S) Q E = We (mi ρ S) (fun it S1 => We (lcF it f mt m (wipeD ρ own) S1.length it.cnt 0 (S1 ++ [.lst []])) Q E) E := by
  unfold mLc
  rw [we_bind]
/-- each part adds to the store alone -/
theorem lc_gro {it : ItD} (V : Nat → D → Prop) (hc : it.cnt < 16777216) (step : ∀ i S', i < it.cnt → (∃ G, S' = S ++ G) → ∃ d, it.nx i S' = some d ∧ ∃ ρ1, f d ρ = some ρ1 ∧ ∃ y G, m ρ1 S' = .ok y (S' ++ G) ∧ V i y)
    (fin : ∀ G, it.fin (S ++ G) = true) : ∃ ys G, lcF it f mYes m ρ S.length it.cnt 0 (S ++ [.lst []]) = .ok (.ref S.length) (S ++ .lst ys :: G) ∧ ys.length = it.cnt ∧ ∀ i y, ys[i]? = some y → V i y := by
  obtain ⟨S', e, ys, G, q1, q2, q3⟩ := lc_inv (it := it) (f := f) (mt := mYes) (m := m) (ρ := ρ) (n := S.length) (fun i S' => ∃ ys G, S' = S ++ .lst ys :: G ∧ ys.length = i ∧ ∀ k y, ys[k]? = some y → V k y)
    (fun i S' hi ⟨ys, G, q1, q2, q3⟩ => by
      subst q1
      obtain ⟨d, e1, ρ1, e2, y, G2, e3, e4⟩ := step i (S ++ .lst ys :: G) hi ⟨_, rfl⟩
      refine ⟨d, ρ1, e1, e2, .inr ⟨_, y, _, ys, rfl, e3, ?_, by omega, ys ++ [y], G ++ G2, ?_, by simp [q2], fun k z hz => ?_⟩⟩
      · rw [List.append_assoc, app_at0]
        rfl
      · rw [List.append_assoc, app_set0]
        rfl
      · by_cases hk : k < ys.length
        · rw [List.getElem?_append_left hk] at hz
          exact q3 k z hz
        · have hk2 : k = ys.length := by
            have := (List.getElem?_eq_some_iff.mp hz).1
            simp at this
            omega
          subst hk2
          simp at hz
          subst hz
          rw [q2]
          exact e4)
    (fun S' ⟨ys, G, q1, _⟩ => by rw [q1]; exact fin _) (S := S ++ [.lst []]) ⟨[], [], rfl, rfl, fun k y h => by simp at h⟩
  subst q1
  exact ⟨ys, G, e, q2, q3⟩
theorem lc_map {it : ItD} (v : Nat → D) (hc : it.cnt < 16777216) (step : ∀ i S', i < it.cnt → (∃ G, S' = S ++ G) → ∃ d, it.nx i S' = some d ∧ ∃ ρ1, f d ρ = some ρ1 ∧ ∃ G, m ρ1 S' = .ok (v i) (S' ++ G))
    (fin : ∀ G, it.fin (S ++ G) = true) : ∃ G, lcF it f mYes m ρ S.length it.cnt 0 (S ++ [.lst []]) = .ok (.ref S.length) (S ++ .lst ((List.range it.cnt).map v) :: G) := by
  obtain ⟨ys, G, e, h1, h2⟩ := lc_gro (fun i y => y = v i) hc (fun i S' hi h => by
    obtain ⟨d, e1, ρ1, e2, G, e3⟩ := step i S' hi h
    exact ⟨d, e1, ρ1, e2, v i, G, e3, rfl⟩) fin
  have : ys = (List.range it.cnt).map v := by
    refine List.ext_getElem? fun i => ?_
    by_cases hi : i < it.cnt
    · rw [List.getElem?_map, List.getElem?_range hi, List.getElem?_eq_getElem (by omega)]
      have := h2 i _ (List.getElem?_eq_getElem (by omega))
      rw [this]
      rfl
    · rw [List.getElem?_eq_none (by omega), List.getElem?_eq_none (by simp; omega)]
  rw [← this]
  exact ⟨G, e⟩
theorem we_lcg {it : ItD} {Q : D → Sto → Prop} {E : Exn → Sto → Prop} (V : Nat → D → Prop) (hc : it.cnt < 16777216) (step : ∀ i S', i < it.cnt → (∃ G, S' = S ++ G) → ∃ d, it.nx i S' = some d ∧ ∃ ρ1, f d ρ = some ρ1 ∧ ∃ y G, m ρ1 S' = .ok y (S' ++ G) ∧ V i y)
    (fin : ∀ G, it.fin (S ++ G) = true) (done : ∀ ys G, ys.length = it.cnt → (∀ i y, ys[i]? = some y → V i y) → Q (.ref S.length) (S ++ .lst ys :: G)) : We (lcF it f mYes m ρ S.length it.cnt 0 (S ++ [.lst []])) Q E := by
  obtain ⟨ys, G, e, h1, h2⟩ := lc_gro V hc step fin
  rw [e]
  exact done ys G h1 h2
theorem we_lcm {it : ItD} {Q : D → Sto → Prop} {E : Exn → Sto → Prop} (v : Nat → D) (hc : it.cnt < 16777216) (step : ∀ i S', i < it.cnt → (∃ G, S' = S ++ G) → ∃ d, it.nx i S' = some d ∧ ∃ ρ1, f d ρ = some ρ1 ∧ ∃ G, m ρ1 S' = .ok (v i) (S' ++ G))
    (fin : ∀ G, it.fin (S ++ G) = true) (done : ∀ G, Q (.ref S.length) (S ++ .lst ((List.range it.cnt).map v) :: G)) : We (lcF it f mYes m ρ S.length it.cnt 0 (S ++ [.lst []])) Q E := by
  obtain ⟨G, e⟩ := lc_map v hc step fin
  rw [e]
  exact done G
end
/-! lists of truths -/
theorem toPys_bls {S : Sto} {n : Nat} : ∀ xs : List Bool, toPys S n (xs.map D.bl) = some (xs.map PyData.bool)
  | [] => by unfold toPys; rfl
  | x :: xs => by
    rw [List.map_cons, toPys, toPys_bls xs, toPy]
    rfl
theorem eqvAll_bls : ∀ xs ys : List Bool, PyData.eqvAll (xs.map PyData.bool) (ys.map PyData.bool) = decide (xs = ys)
  | [], [] => by simp [PyData.eqvAll]
  | [], y :: ys => by simp [PyData.eqvAll]
  | x :: xs, [] => by simp [PyData.eqvAll]
  | x :: xs, y :: ys => by
    rw [List.map_cons, List.map_cons, PyData.eqvAll, eqvAll_bls xs ys, PyData.eqv]
    rw [Bool.eq_iff_iff]
    simp
theorem canLay_bls : ∀ xs : List Bool, PyData.canLayAll0 (xs.map PyData.bool) = true
  | [] => by simp [PyData.canLayAll0]
  | x :: xs => by
    rw [List.map_cons, PyData.canLayAll0, canLay_bls xs, PyData.canLay0]
    rfl
theorem depth_bls : ∀ xs : List Bool, PyData.depthAll (xs.map PyData.bool) = 0
  | [] => by simp [PyData.depthAll]
  | x :: xs => by
    rw [List.map_cons, PyData.depthAll, depth_bls xs, PyData.depth]
    rfl
theorem shaped_bls (xs : List Bool) : SeqAt.shaped (.list (xs.map PyData.bool)) = true := by
  unfold SeqAt.shaped
  rw [PyData.canLay0, canLay_bls, PyData.depth, depth_bls]
  rfl
theorem eqD_bls {S : Sto} {a b : Nat} {xs ys : List Bool} (h1 : lstAt S a = some (xs.map D.bl)) (h2 : lstAt S b = some (ys.map D.bl)) : eqD S (.ref a) (.ref b) = some (decide (xs = ys)) := by
  show deepEq S _ _ = _
  unfold deepEq
  rw [toPy, toPy, h1, h2]
  dsimp only
  rw [toPys_bls, toPys_bls]
  dsimp only [Option.map]
  rw [shaped_bls, shaped_bls]
  simp only [Bool.and_self, if_true]
  rw [PyData.eqv, eqvAll_bls]
/-- lists of whole numbers and texts -/
theorem eqD_lpts {S : Sto} {a b : Nat} {xs ys : List D} (l1 : lstAt S a = some xs) (l2 : lstAt S b = some ys) (h1 : ∀ d ∈ xs, isPt d = true) (h2 : ∀ d ∈ ys, isPt d = true) (k1 : ∀ d ∈ xs, okPt d = true) (k2 : ∀ d ∈ ys, okPt d = true) : ∃ c, eqD S (.ref a) (.ref b) = some c ∧ (c = true ↔ xs = ys) := by
  have s : ∀ zs : List D, (∀ d ∈ zs, okPt d = true) → SeqAt.shaped (.list (zs.map ptPy)) = true := by
    intro zs hk
    unfold SeqAt.shaped
    rw [PyData.canLay0, canLay_pts zs hk, PyData.depth, depth_pts]
    rfl
  refine ⟨_, ?_, eqvAll_pts xs ys h1 h2⟩
  show deepEq S _ _ = _
  unfold deepEq
  rw [toPy, toPy, l1, l2]
  dsimp only
  rw [toPys_pts xs h1, toPys_pts ys h2]
  dsimp only [Option.map]
  rw [s xs k1, s ys k2]
  simp only [Bool.and_self, if_true]
  rw [PyData.eqv]
/-- two whole numbers or texts -/
theorem eqD_pt2 {S : Sto} {d e : D} (h1 : isPt d = true) (h2 : isPt e = true) : ∃ c, eqD S d e = some c ∧ (c = true ↔ d = e) := by
  cases d <;> first | (cases h1; done) | skip
  all_goals cases e <;> first | (cases h2; done) | skip
  · exact ⟨_, eqD_int, by simp⟩
  · exact ⟨false, rfl, by simp⟩
  · exact ⟨false, rfl, by simp⟩
  · exact ⟨_, eqD_str, by simp⟩
end Eng

set_option maxHeartbeats 2000000
/-! The engine, part 42: a method called by its class; isinstance of own objects. -/
namespace Eng
open PySem PySem.Spec PyProof.Rows L2
variable [TabCfg]
/-- what the written part must say of C.m, a def -/
structure BaseC (K : PySem.W.Frag) (C : Addr) (m : Str) (f : Addr) : Prop where
  rd : PySem.W.readsIn K C (.type "type") = true
  ga : PySem.W.specialIn K (.ref C) "__getattribute__" = some (some (.builtin "type.__getattribute__"))
  at_ : PySem.W.findCls K (.ref C) (.type "type") m = some (.val (.ref f))
def baseB (K : PySem.W.Frag) (C : Addr) (m : Str) (f : Addr) : Bool := PySem.W.readsIn K C (.type "type") && (decide (PySem.W.specialIn K (.ref C) "__getattribute__" = some (some (.builtin "type.__getattribute__"))) &&
  match PySem.W.findCls K (.ref C) (.type "type") m with
  | some (.val v) => decide (v = .ref f)
  | _ => false)
theorem baseB_ok {K : PySem.W.Frag} {C : Addr} {m : Str} {f : Addr} (h : baseB K C m f = true) : BaseC K C m f := by
  unfold baseB at h
  obtain ⟨h1, h⟩ := Bool.and_eq_true_iff.mp h
  obtain ⟨h2, h3⟩ := Bool.and_eq_true_iff.mp h
  refine ⟨h1, of_decide_eq_true h2, ?_⟩
  split at h3
  · rename_i v e
    rw [e, of_decide_eq_true h3]
  · cases h3
section
variable {X : Cx} {W : WX} {e : Expr} {es : List Expr} {ma : Ma} {p p1 p2 pos : Pos} {x mn : Str} {Cb f : Addr} {fd : FuncData} {ps : List Str} {k j n : Nat} {g : List D → Sto → R D}
theorem me_base {pl : Sem Bool} (C : BaseC X.K Cb mn f) (hm : X.mg x = some (.ref Cb)) (F : FnOk X.prog X.w X.K X.mg X.base (L2.CX X.prog X.w) k f fd ps (spM X.K X.mg n g)) (hr : Room j X.A) (hk : PySem.W.keepIn X.K (.ref f) = true) (hb : Binds X.K fd ps []) (tk : Takes X W) (ha : MA X W (e :: es) ma) (hl : ∀ β H vs ds ρ S S', Vds X.K X.mg β H vs ds → ma ρ S = .ok ds S' → vs.length = n)
    (hkj : k ≤ j := by decide) (hg : Gl X x := by rfl) (hdb : (x == ("__debug__" : Str)) = false := by decide)
    (hc : eval (.Call (.Attribute (.Name x p1) mn p2) (e :: es) [] pos) X.env = (do
      let ov ← eval (.Name x p1) X.env
      standAt p2.atName
      let (f, first) ← holding [ov] (getMethod ov mn pl)
      callWith pos f first (backTo pos (starEach (e :: es) X.env)) (backToKw pos (keywordEach [] X.env))) := by rfl)
    (he : starEach (e :: es) X.env = (false, eval e X.env) :: starEach es X.env := by rfl) (hpl : (backTo pos (starEach es X.env)).any (·.1) = false := by rfl) :
    ME X W (.Call (.Attribute (.Name x p1) mn p2) (e :: es) [] pos) (mCall g ma) := by
  refine ⟨⟨fun pins s σ H Q I ⟨β, S, ρ, rl, en, q⟩ => ?_⟩⟩
  refine PySem.W.methodCall_KW (ld_glob I hg hm ?_ hdb) hc
  refine PySem.W.method_cls I.kIn C.ga (PySem.W.cls_value I.kIn C.rd C.at_ (by rfl) ?_)
  have q2 := (show Po X.K X.mg W σ β H ((ma ρ S).bind g) _ from q).bind
  have step : tMA X.K X.mg W ma σ H fun vs H2 => spM X.K X.mg n g vs H2 Q (WE W σ) := by
    refine ⟨β, S, ρ, rl, en, ?_⟩
    cases e2 : ma ρ S with
    | ok ds S2 =>
      rw [e2] at q2
      exact fun β2 H2 x2 r2 vs hvs => call_sp (X := X) (hl β2 H2 vs ds ρ S S2 hvs e2) r2 hvs (q2 β2 H2 x2 r2)
    | ex z S2 => rw [e2] at q2; exact q2
    | stuck => rw [e2] at q2; exact q2
  exact PySem.W.callWith_K (first := []) (h₀ := X.base) I.ok.mod.kin hk (thn (ha.pa.run pos pins _ σ H _ (I.tok _) step) fun us s2 ⟨vs, H2, I2, r, h2⟩ => ⟨I2.kIn, run_fnS (E := WE W) F (hr.mono hkj) hb (passAt tk σ) I2 r h2⟩) he hpl
end
/-! ### isinstance of own objects -/
structure InsC (K : PySem.W.Frag) (C : Addr) : Prop where
  ha : PySem.W.findIn K (.ref C) "__class__" = some (some (.builtin "object.__class__"))
  hn : PySem.W.specialIn K (.builtin "object.__class__") "__get__" = some (some (.builtin "getset_descriptor.__get__"))
  ht : PySem.W.takesIn K (.builtin "object.__class__") = some true
  hm : PySem.W.mroIn K C (.type "object") = some true
def insB (K : PySem.W.Frag) (C : Addr) : Bool := decide (PySem.W.findIn K (.ref C) "__class__" = some (some (.builtin "object.__class__"))) && (decide (PySem.W.specialIn K (.builtin "object.__class__") "__get__" = some (some (.builtin "getset_descriptor.__get__"))) && (decide (PySem.W.takesIn K (.builtin "object.__class__") = some true) && decide (PySem.W.mroIn K C (.type "object") = some true)))
theorem insB_ok {K : PySem.W.Frag} {C : Addr} (h : insB K C = true) : InsC K C := by
  unfold insB at h
  simp only [Bool.and_eq_true, decide_eq_true_eq] at h
  obtain ⟨h1, h2, h3, h4⟩ := h
  exact ⟨h1, h2, h3, h4⟩
structure IsbOk (K : PySem.W.Frag) (mg : Str → Option Value) (isb : IsaT) : Prop where
  kit : ∀ y c b Cy Cc, isb y c = some b → mg y = some (.ref Cy) → mg c = some (.ref Cc) → PySem.W.kitOne K (.ref Cy) (.ref Cc) = some b
  ins : ∀ y c b Cy, isb y c = some b → mg y = some (.ref Cy) → InsC K Cy
theorem isbOk_of {K : PySem.W.Frag} {mg : Str → Option Value} {l : List (Str × Str × Bool)}
    (h : allL (fun p => ∃ Cy Cc, mg p.1 = some (.ref Cy) ∧ mg p.2.1 = some (.ref Cc) ∧ PySem.W.kitOne K (.ref Cy) (.ref Cc) = some p.2.2 ∧ InsC K Cy) l) : IsbOk K mg (isaOf l) := by
  have at1 : ∀ y c b, isaOf l y c = some b → ∃ Cy Cc, mg y = some (.ref Cy) ∧ mg c = some (.ref Cc) ∧ PySem.W.kitOne K (.ref Cy) (.ref Cc) = some b ∧ InsC K Cy := by
    intro y c b e
    unfold isaOf at e
    cases q : l.find? fun p => decide (p.1 = y ∧ p.2.1 = c) with
    | none => rw [q] at e; cases e
    | some p =>
      rw [q] at e
      cases e
      have z := List.find?_some q
      obtain ⟨rfl, rfl⟩ := of_decide_eq_true z
      exact allL_mem h p (List.mem_of_find?_eq_some q)
  refine ⟨fun y c b Cy Cc e h1 h2 => ?_, fun y c b Cy e h1 => ?_⟩
  · obtain ⟨u, v, z1, z2, z3, z4⟩ := at1 y c b e
    rw [h1] at z1; cases z1
    rw [h2] at z2; cases z2
    exact z3
  · obtain ⟨u, v, z1, z2, z3, z4⟩ := at1 y c b e
    rw [h1] at z1; cases z1
    exact z4
def fIsZ (isb : IsaT) (g : FA) : FA
  | [.ref n, .gl c], S => match S[n]? with
    | some (.ins y _) => (isb y c).map fun b => (.bl b, S)
    | _ => g [.ref n, .gl c] S
  | ds, S => g ds S
section
variable {X : Cx} {W : WX} {pos p : Pos} {isb : IsaT} {g : FA} {r0 : List V → Hp → VK → Prop}
theorem o_isZ (T : IsbOk X.K X.mg isb) (o : OpA X r0 g) : OpA X (fun xs H Q => rIsi X.K xs H Q ∨ r0 xs H Q) (fIsZ isb g) := by
  intro β H S xs vs d S' Q r hv e k
  have base : g xs S = some (d, S') → rIsi X.K vs H Q ∨ r0 vs H Q := fun e => .inr (o β H S xs vs d S' Q r hv e k)
  unfold fIsZ at e
  split at e
  · rename_i n c
    split at e
    · rename_i y fs q
      obtain ⟨v, w, rfl, h1, h2⟩ := hv.two
      cases q2 : isb y c with
      | none => rw [q2] at e; cases e
      | some b =>
        rw [q2] at e
        cases e
        obtain ⟨a, rfl, h3⟩ := h1.ref_inv
        obtain ⟨Ca, dx, xs, g1, g2, g3, g4, g5⟩ := ins_of r h3 q
        obtain ⟨z1, z2, z3, z4⟩ := T.ins _ _ _ _ q2 g1
        cases h2 with
        | gl h7 => exact .inl ⟨.ref a, _, .ref Ca, _, b, rfl, .own _, .base (.ins g2 g4 z1 z2 z3 z4), T.kit _ _ _ _ _ q2 g1 h7, k β H _ .refl r (.bl b)⟩
    · exact base e
  · exact base e
theorem me_isz {e c : Expr} {m mc : Mx} (T : IsbOk X.K X.mg isb) (c0 : CallR X (.builtin "isinstance") r0) (o0 : OpA X r0 g) (hm : X.mg "isinstance" = none) (ha : ME X W e m) (hc : ME X W c mc) (hg : Gl X "isinstance" := by rfl) (hs : starEach [e, c] X.env = [(false, eval e X.env), (false, eval c X.env)] := by rfl) (hs2 : starEach [c] X.env = [(false, eval c X.env)] := by rfl) :
    ME X W (.Call (.Name "isinstance" p) [e, c] [] pos) (mCB (fIsZ isb g) (mCons m (mCons mc mNil))) :=
  me_cb (CallR.or call_isi c0) (o_isZ T o0) (ma_cons ha (ma_cons hc ma_nil hs2) (by rw [hs, hs2])) hm (by decide +kernel) hg (by decide) (by decide) (by rw [hs, hs2]) (by rw [hs2]; rfl)
/-- without own exceptions -/
theorem me_isz0 {e c : Expr} {m mc : Mx} (T : IsbOk X.K X.mg isb) (hm : X.mg "isinstance" = none) (ha : ME X W e m) (hc : ME X W c mc) (hg : Gl X "isinstance" := by rfl) (hs : starEach [e, c] X.env = [(false, eval e X.env), (false, eval c X.env)] := by rfl) (hs2 : starEach [c] X.env = [(false, eval c X.env)] := by rfl) :
    ME X W (.Call (.Name "isinstance" p) [e, c] [] pos) (mCB (fIsZ isb fIsi) (mCons m (mCons mc mNil))) := me_isz T call_isi o_isi hm ha hc hg hs hs2
end
section
variable {S : Sto} {c : Str} {isb : IsaT} {n : Nat} {g : FA}
@[simp] theorem fIsZ_gl : fIsZ isb g [.ref n, .gl c] S = match S[n]? with
    | some (.ins y _) => (isb y c).map fun b => (.bl b, S)
    | _ => g [.ref n, .gl c] S := rfl
@[simp] theorem fIsZ_ty {d : D} {t : String} : fIsZ isb g [d, .ty t] S = g [d, .ty t] S := by cases d <;> rfl
end
end Eng

/-! The engine, part 43: levels. -/
namespace Eng
open PySem PySem.Spec PyProof.Rows L2
theorem lev {P : Program} {w : World} {K : PySem.W.Frag} {mg : Str → Option Value} {base : Heap} {CX : CXT} {k j : Nat} {f : Addr} {fd : FuncData} {ps : List Str} {sp : Sp} (e : k = j) (h : FnOk P w K mg base CX k f fd ps sp) : FnOk P w K mg base CX j f fd ps sp := by
  subst e
  exact h
end Eng

/-! The engine, part 44: what stands in the store as data; == of such things. -/
namespace Eng
open PySem PySem.Spec PyProof.Rows L2
variable [TabCfg]
mutual
inductive Rp (S : Sto) : D → PyData → Prop
  | non : Rp S .non .none
  | bl (b : Bool) : Rp S (.bl b) (.bool b)
  | int (i : Int) : Rp S (.int i) (.int i)
  | str (z : Str) : Rp S (.str z) (.str z)
  | tup {ds : List D} {ps : List PyData} : Rps S ds ps → Rp S (.tup ds) (.tuple ps)
  | ref {m : Nat} {ds : List D} {ps : List PyData} : lstAt S m = some ds → Rps S ds ps → Rp S (.ref m) (.list ps)
inductive Rps (S : Sto) : List D → List PyData → Prop
  | nil : Rps S [] []
  | cons {d : D} {p : PyData} {ds : List D} {ps : List PyData} : Rp S d p → Rps S ds ps → Rps S (d :: ds) (p :: ps)
end
mutual
theorem Rp.toPy {S : Sto} : ∀ {d : D} {p : PyData}, Rp S d p → ∀ n, p.depth ≤ n → toPy S n d = some p
  | _, _, .non, n, _ => by unfold Eng.toPy; rfl
  | _, _, .bl _, n, _ => by unfold Eng.toPy; rfl
  | _, _, .int _, n, _ => by unfold Eng.toPy; rfl
  | _, _, .str _, n, _ => by unfold Eng.toPy; rfl
  | _, _, .tup (ps := ps) h, n, hn => by
    rw [PyData.depth] at hn
    obtain ⟨n, rfl⟩ : ∃ k, n = k + 1 := ⟨n - 1, by omega⟩
    rw [Eng.toPy, h.toPys n (by omega)]
    rfl
  | _, _, .ref (ps := ps) h1 h, n, hn => by
    rw [PyData.depth] at hn
    obtain ⟨n, rfl⟩ : ∃ k, n = k + 1 := ⟨n - 1, by omega⟩
    rw [Eng.toPy, h1]
    dsimp only
    rw [h.toPys n (by omega)]
    rfl
theorem Rps.toPys {S : Sto} : ∀ {ds : List D} {ps : List PyData}, Rps S ds ps → ∀ n, PyData.depthAll ps ≤ n → toPys S n ds = some ps
  | _, _, .nil, n, _ => by unfold Eng.toPys; rfl
  | _, _, .cons h t, n, hn => by
    rw [PyData.depthAll] at hn
    rw [Eng.toPys, h.toPy n (by omega), t.toPys n (by omega)]
end
mutual
theorem Rp.more {S G : Sto} : ∀ {d : D} {p : PyData}, Rp S d p → Rp (S ++ G) d p
  | _, _, .non => .non
  | _, _, .bl b => .bl b
  | _, _, .int i => .int i
  | _, _, .str z => .str z
  | _, _, .tup h => .tup h.more
  | _, _, .ref h1 h => .ref (lstAt_more h1) h.more
theorem Rps.more {S G : Sto} : ∀ {ds : List D} {ps : List PyData}, Rps S ds ps → Rps (S ++ G) ds ps
  | _, _, .nil => .nil
  | _, _, .cons h t => .cons h.more t.more
end
theorem Rps.app {S : Sto} : ∀ {ds es : List D} {ps qs : List PyData}, Rps S ds ps → Rps S es qs → Rps S (ds ++ es) (ps ++ qs)
  | _, _, _, _, .nil, h => h
  | _, _, _, _, .cons h t, k => .cons h (t.app k)
/-- == of two things that are no scalars -/
theorem eqD_rp {S : Sto} {a b : D} {p q : PyData} (hs : scalEq a b = none) (ha : Rp S a p) (hb : Rp S b q) (sp : SeqAt.shaped p = true) (sq : SeqAt.shaped q = true) : eqD S a b = some (PyData.eqv p q) := by
  have d1 : p.depth ≤ 64 := by
    unfold SeqAt.shaped at sp
    exact of_decide_eq_true (Bool.and_eq_true_iff.mp sp).2
  have d2 : q.depth ≤ 64 := by
    unfold SeqAt.shaped at sq
    exact of_decide_eq_true (Bool.and_eq_true_iff.mp sq).2
  unfold eqD
  rw [hs]
  show deepEq S a b = _
  unfold deepEq
  rw [ha.toPy 64 d1, hb.toPy 64 d2]
  dsimp only
  rw [sp, sq]
  rfl
/-- .. of one data -/
theorem eqD_same {S : Sto} {a b : D} {p : PyData} (hs : scalEq a b = none) (ha : Rp S a p) (hb : Rp S b p) (sp : SeqAt.shaped p = true) : eqD S a b = some true := by
  rw [eqD_rp hs ha hb sp sp, SeqAt.eqv_refl]
  unfold SeqAt.shaped at sp
  exact (Bool.and_eq_true_iff.mp sp).1
/-! no truths within: == is sameness -/
mutual
inductive Nb : PyData → Prop
  | none : Nb .none
  | int (i : Int) : Nb (.int i)
  | str (z : Str) : Nb (.str z)
  | tuple {ps : List PyData} : Nbs ps → Nb (.tuple ps)
  | list {ps : List PyData} : Nbs ps → Nb (.list ps)
inductive Nbs : List PyData → Prop
  | nil : Nbs []
  | cons {p : PyData} {ps : List PyData} : Nb p → Nbs ps → Nbs (p :: ps)
end
mutual
theorem Nb.eqv : ∀ {p q : PyData}, Nb p → Nb q → (PyData.eqv p q = true ↔ p = q)
  | _, _, .none, .none => by simp [PyData.eqv]
  | _, _, .none, .int _ => by simp [PyData.eqv]
  | _, _, .none, .str _ => by simp [PyData.eqv]
  | _, _, .none, .tuple _ => by simp [PyData.eqv]
  | _, _, .none, .list _ => by simp [PyData.eqv]
  | _, _, .int _, .none => by simp [PyData.eqv]
  | _, _, .int _, .int _ => by simp [PyData.eqv]
  | _, _, .int _, .str _ => by simp [PyData.eqv]
  | _, _, .int _, .tuple _ => by simp [PyData.eqv]
  | _, _, .int _, .list _ => by simp [PyData.eqv]
  | _, _, .str _, .none => by simp [PyData.eqv]
  | _, _, .str _, .int _ => by simp [PyData.eqv]
  | _, _, .str _, .str _ => by simp [PyData.eqv]
  | _, _, .str _, .tuple _ => by simp [PyData.eqv]
  | _, _, .str _, .list _ => by simp [PyData.eqv]
  | _, _, .tuple _, .none => by simp [PyData.eqv]
  | _, _, .tuple _, .int _ => by simp [PyData.eqv]
  | _, _, .tuple _, .str _ => by simp [PyData.eqv]
  | _, _, .tuple h, .tuple k => by
    rw [PyData.eqv, Nbs.eqv h k]
    simp
  | _, _, .tuple _, .list _ => by simp [PyData.eqv]
  | _, _, .list _, .none => by simp [PyData.eqv]
  | _, _, .list _, .int _ => by simp [PyData.eqv]
  | _, _, .list _, .str _ => by simp [PyData.eqv]
  | _, _, .list _, .tuple _ => by simp [PyData.eqv]
  | _, _, .list h, .list k => by
    rw [PyData.eqv, Nbs.eqv h k]
    simp
theorem Nbs.eqv : ∀ {ps qs : List PyData}, Nbs ps → Nbs qs → (PyData.eqvAll ps qs = true ↔ ps = qs)
  | _, _, .nil, .nil => by simp [PyData.eqvAll]
  | _, _, .nil, .cons _ _ => by simp [PyData.eqvAll]
  | _, _, .cons _ _, .nil => by simp [PyData.eqvAll]
  | _, _, .cons h t, .cons k u => by
    rw [PyData.eqvAll, Bool.and_eq_true, Nb.eqv h k, Nbs.eqv t u]
    simp
end
/-! tuples of whole numbers and texts -/
theorem rps_pts {S : Sto} : ∀ {ds : List D}, (∀ d ∈ ds, isPt d = true) → Rps S ds (ds.map ptPy)
  | [], _ => .nil
  | d :: ds, h => by
    refine .cons ?_ (rps_pts fun x hx => h x (List.mem_cons_of_mem _ hx))
    have := h d (List.mem_cons_self ..)
    cases d <;> first | (cases this; done) | exact .int _ | exact .str _
theorem nbs_pts : ∀ {ds : List D}, (∀ d ∈ ds, isPt d = true) → Nbs (ds.map ptPy)
  | [], _ => .nil
  | d :: ds, h => by
    refine .cons ?_ (nbs_pts fun x hx => h x (List.mem_cons_of_mem _ hx))
    have := h d (List.mem_cons_self ..)
    cases d <;> first | (cases this; done) | exact .int _ | exact .str _
/-- a list of such tuples -/
def tupsPy (ts : List (List D)) : List PyData := ts.map fun t => .tuple (t.map ptPy)
theorem rps_tups {S : Sto} : ∀ {ts : List (List D)}, (∀ t ∈ ts, ∀ d ∈ t, isPt d = true) → Rps S (ts.map D.tup) (tupsPy ts)
  | [], _ => .nil
  | t :: ts, h => .cons (.tup (rps_pts (h t (List.mem_cons_self ..)))) (rps_tups fun x hx => h x (List.mem_cons_of_mem _ hx))
theorem nbs_tups : ∀ {ts : List (List D)}, (∀ t ∈ ts, ∀ d ∈ t, isPt d = true) → Nbs (tupsPy ts)
  | [], _ => .nil
  | t :: ts, h => .cons (.tuple (nbs_pts (h t (List.mem_cons_self ..)))) (nbs_tups fun x hx => h x (List.mem_cons_of_mem _ hx))
theorem lay_tups : ∀ {ts : List (List D)}, (∀ t ∈ ts, ∀ d ∈ t, okPt d = true) → PyData.canLayAll0 (tupsPy ts) = true ∧ PyData.depthAll (tupsPy ts) ≤ 1
  | [], _ => by simp [tupsPy, PyData.canLayAll0, PyData.depthAll]
  | t :: ts, h => by
    obtain ⟨h1, h2⟩ := lay_tups (ts := ts) fun x hx => h x (List.mem_cons_of_mem _ hx)
    have h3 := canLay_pts t (h t (List.mem_cons_self ..))
    have h4 := depth_pts t
    unfold tupsPy at *
    rw [List.map_cons, PyData.canLayAll0, PyData.depthAll, PyData.canLay0, PyData.depth, h1, h3, h4]
    exact ⟨rfl, by omega⟩
theorem shaped_ltups {ts : List (List D)} (h : ∀ t ∈ ts, ∀ d ∈ t, okPt d = true) : SeqAt.shaped (.list (tupsPy ts)) = true := by
  obtain ⟨h1, h2⟩ := lay_tups h
  unfold SeqAt.shaped
  rw [PyData.canLay0, PyData.depth, h1]
  simp
  omega
theorem ptPy_inj {d e : D} (h : isPt d = true) (k : isPt e = true) (q : ptPy d = ptPy e) : d = e := by
  cases d <;> first | (cases h; done) | skip
  all_goals cases e <;> first | (cases k; done) | skip
  all_goals first | (cases q; done) | (cases q; rfl)
theorem mapPt_inj : ∀ {xs ys : List D}, (∀ d ∈ xs, isPt d = true) → (∀ d ∈ ys, isPt d = true) → xs.map ptPy = ys.map ptPy → xs = ys
  | [], [], _, _, _ => rfl
  | [], _ :: _, _, _, h => by cases h
  | _ :: _, [], _, _, h => by cases h
  | x :: xs, y :: ys, h1, h2, h => by
    obtain ⟨a, b⟩ := List.cons.inj h
    rw [ptPy_inj (h1 x (List.mem_cons_self ..)) (h2 y (List.mem_cons_self ..)) a, mapPt_inj (fun d hd => h1 d (List.mem_cons_of_mem _ hd)) (fun d hd => h2 d (List.mem_cons_of_mem _ hd)) b]
theorem tupsPy_inj : ∀ {xs ys : List (List D)}, (∀ t ∈ xs, ∀ d ∈ t, isPt d = true) → (∀ t ∈ ys, ∀ d ∈ t, isPt d = true) → tupsPy xs = tupsPy ys → xs = ys
  | [], [], _, _, _ => rfl
  | [], _ :: _, _, _, h => by cases h
  | _ :: _, [], _, _, h => by cases h
  | x :: xs, y :: ys, h1, h2, h => by
    obtain ⟨a, b⟩ := List.cons.inj h
    rw [mapPt_inj (h1 x (List.mem_cons_self ..)) (h2 y (List.mem_cons_self ..)) (PyData.tuple.inj a), tupsPy_inj (fun d hd => h1 d (List.mem_cons_of_mem _ hd)) (fun d hd => h2 d (List.mem_cons_of_mem _ hd)) b]
/-- two lists of tuples -/
theorem eqD_ltups {S : Sto} {a b : Nat} {xs ys : List (List D)} (l1 : lstAt S a = some (xs.map D.tup)) (l2 : lstAt S b = some (ys.map D.tup)) (h1 : ∀ t ∈ xs, ∀ d ∈ t, isPt d = true) (h2 : ∀ t ∈ ys, ∀ d ∈ t, isPt d = true) (k1 : ∀ t ∈ xs, ∀ d ∈ t, okPt d = true) (k2 : ∀ t ∈ ys, ∀ d ∈ t, okPt d = true) :
    ∃ c, eqD S (.ref a) (.ref b) = some c ∧ (c = true ↔ xs = ys) := by
  refine ⟨_, eqD_rp rfl (.ref l1 (rps_tups h1)) (.ref l2 (rps_tups h2)) (shaped_ltups k1) (shaped_ltups k2), ?_⟩
  rw [Nb.eqv (.list (nbs_tups h1)) (.list (nbs_tups h2))]
  constructor
  · intro h
    exact tupsPy_inj h1 h2 (PyData.list.inj h)
  · rintro rfl
    rfl
end Eng

/-! The engine, part 45: str of a text. -/
namespace Eng
open PySem PySem.Spec PyProof.Rows L2
variable [TabCfg]
section
variable {X : Cx} {W : WX} {pos : Pos}
def fStrT : FA
  | [.str a], S => some (.str a, S)
  | ds, S => fStr ds S
theorem o_strT : OpA X (fun xs H Q => (∃ a, xs = [.str a] ∧ Q (.str a) H) ∨ ∃ i, xs = [.int i] ∧ i.natAbs.log2 < 1920 ∧ Q (.str (toString i)) H) fStrT := by
  intro β H S xs vs d S' Q r hv e k
  by_cases h : ∃ a, xs = [.str a]
  · obtain ⟨a, rfl⟩ := h
    obtain ⟨v, rfl, h⟩ := hv.one
    cases h
    cases e
    exact .inl ⟨a, rfl, k β H _ .refl r (.str _)⟩
  · have e2 : fStr xs S = some (d, S') := by
      rw [← e]
      unfold fStrT
      split
      · rename_i a _
        exact (h ⟨_, rfl⟩).elim
      · rfl
    exact .inr (o_str _ _ _ _ _ _ _ _ r hv e2 k)
theorem me_str2 {e : Expr} {m : Mx} {p : Pos} (hm : X.mg "str" = none) (ha : ME X W e m) (hg : Gl X "str" := by rfl) (hs : starEach [e] X.env = [(false, eval e X.env)] := by rfl) : ME X W (.Call (.Name "str" p) [e] [] pos) (mCB fStrT (mCons m mNil)) :=
  me_cty (L2.CallR.or SkE.call_str_str call_str_int) o_strT (ma_cons ha ma_nil hs) hm (by decide +kernel) hg (by decide) (by decide) hs rfl
end
variable {S : Sto}
@[simp] theorem fStrT_str {a : Str} : fStrT [.str a] S = some (.str a, S) := rfl
@[simp] theorem fStrT_int {i : Int} : fStrT [.int i] S = if i.natAbs.log2 < 1920 then some (.str (num i), S) else none := rfl
end Eng

set_option maxHeartbeats 2000000
/-! The engine, part 46: sorted of whole numbers, of a dict whose keys they are; a dict copied; list.insert. -/
namespace Eng
open PySem PySem.Spec PyProof.Rows L2
variable [TabCfg]
def insZ (x : Int) : List Int → List Int
  | [] => [x]
  | y :: r => if x ≤ y then x :: y :: r else y :: insZ x r
def isort : List Int → List Int
  | [] => []
  | x :: r => insZ x (isort r)
theorem insZ_perm (x : Int) : ∀ l : List Int, (insZ x l).Perm (x :: l)
  | [] => .refl _
  | y :: r => by
    unfold insZ
    split
    · exact .refl _
    · exact ((insZ_perm x r).cons y).trans (.swap x y r)
theorem isort_perm : ∀ l : List Int, (isort l).Perm l
  | [] => .refl _
  | x :: r => (insZ_perm x _).trans ((isort_perm r).cons x)
theorem insZ_sorted (x : Int) : ∀ {l : List Int}, l.Pairwise (· ≤ ·) → (insZ x l).Pairwise (· ≤ ·)
  | [], _ => by simp [insZ]
  | y :: r, h => by
    obtain ⟨h1, h2⟩ := List.pairwise_cons.mp h
    unfold insZ
    split
    · rename_i hx
      exact List.pairwise_cons.mpr ⟨fun z hz => by
        rcases List.mem_cons.mp hz with rfl | hz
        · exact hx
        · exact Int.le_trans hx (h1 z hz), h⟩
    · rename_i hx
      refine List.pairwise_cons.mpr ⟨fun z hz => ?_, insZ_sorted x h2⟩
      rcases List.mem_cons.mp ((insZ_perm x r).mem_iff.mp hz) with rfl | hz
      · omega
      · exact h1 z hz
theorem isort_sorted : ∀ l : List Int, (isort l).Pairwise (· ≤ ·)
  | [] => .nil
  | x :: r => insZ_sorted x (isort_sorted r)
theorem isort_only {ys ks : List Int} (h1 : ys.Perm ks) (h2 : ys.Pairwise (· ≤ ·)) : ys = isort ks :=
  List.Perm.eq_of_pairwise (fun a b _ _ h k => Int.le_antisymm h k) h2 (isort_sorted ks) (h1.trans (isort_perm ks).symm)
/-- the keys of a dict, all whole numbers -/
def keysZ : List (Key × D) → Option (List Int)
  | [] => some []
  | (.inl i, _) :: r => (keysZ r).map (i :: ·)
  | _ => none
theorem keysZ_is : ∀ {kvs : List (Key × D)} {ks : List Int}, keysZ kvs = some ks → kvs.map (·.1) = ks.map Sum.inl
  | [], ks, h => by cases h; rfl
  | (.inl i, d) :: r, ks, h => by
    unfold keysZ at h
    cases q : keysZ r with
    | none => rw [q] at h; cases h
    | some ms =>
      rw [q] at h
      cases h
      rw [List.map_cons, List.map_cons, keysZ_is q]
  | (.inr i, d) :: r, ks, h => by cases h
def fSort : FA
  | [.ref n], S => match S[n]? with
    | some (.dk kvs) => (keysZ kvs).bind fun ks => if ks.length < 64 then some (.ref S.length, S ++ [.lst ((isort ks).map D.int)]) else none
    | _ => (lstAt S n).bind fun ds => (intsOf ds).map fun ns => (.ref S.length, S ++ [.lst ((isort ns).map D.int)])
  | _, _ => none
def rSortDI : List V → Hp → VK → Prop := fun xs H Q => ∃ (a : Addr) (kvs : List (Key × V)) (ks : List Int), xs = [.ref a] ∧ Rd H a (.dK kvs) ∧ kvs.map (·.1) = ks.map Sum.inl ∧ ks.length < 64 ∧
    ∀ (ys : List Int) (p : Addr), ys.Perm ks → ys.Pairwise (· ≤ ·) → H p = none → Q (.ref p) (upd H p (.lst (ys.map V.int)))
theorem vds_intsOf {K : PySem.W.Frag} {mg : Str → Option Value} {β : List Addr} {H : Hp} : ∀ ns : List Int, Vds K mg β H (ns.map V.int) (ns.map D.int)
  | [] => .nil
  | n :: r => .cons (.int _) (vds_intsOf r)
theorem pd_keys {K : PySem.W.Frag} {mg : Str → Option Value} {β : List Addr} {H : Hp} {xs : List (Key × V)} {ds : List (Key × D)} (h : Pd K mg β H xs ds) : xs.map (·.1) = ds.map (·.1) := by
  unfold Pd at h
  induction h with
  | nil => rfl
  | cons h _ ih => rw [List.map_cons, List.map_cons, ih, h.1]
theorem o_sort {X : Cx} : OpA X (fun xs H Q => rSortDI xs H Q ∨ rSortedI X.K xs H Q) fSort := by
  intro β H S xs vs d S' Q r hv e k
  match xs, e, hv with
  | [.ref n], e, hv =>
    obtain ⟨v, rfl, h⟩ := hv.one
    obtain ⟨a, rfl, h1⟩ := h.ref_inv
    have lists : ((lstAt S n).bind fun ds => (intsOf ds).map fun ns => (D.ref S.length, S ++ [Ob.lst ((isort ns).map D.int)])) = some (d, S') → rSortedI X.K [V.ref a] H Q := fun e => by
      cases q : lstAt S n with
      | none => rw [q] at e; cases e
      | some ds =>
        rw [q] at e
        cases q2 : intsOf ds with
        | none => rw [Option.bind_some, q2] at e; cases e
        | some ns =>
          rw [Option.bind_some, q2] at e
          cases e
          obtain ⟨us, k1, k2⟩ := lst_read r h1 q
          rw [intsOf_is q2] at k2
          rw [vds_ints2 k2] at k1
          refine ⟨a, ns, rfl, k1, fun ys p h2 h3 h4 => ?_⟩
          rw [isort_only h2 h3]
          obtain ⟨x1, r1, v1⟩ := r.newL (vds_intsOf (isort ns)) h4
          exact k _ _ _ x1 r1 v1
    unfold fSort at e
    dsimp only at e
    cases q : S[n]? with
    | none =>
      rw [q] at e
      exact .inr (lists e)
    | some ob =>
      rw [q] at e
      cases ob with
      | dk kvs =>
        dsimp only at e
        cases q2 : keysZ kvs with
        | none => rw [q2] at e; cases e
        | some ks =>
          rw [q2, Option.bind_some] at e
          split at e
          · rename_i hl
            cases e
            obtain ⟨us, h2, h3⟩ := r.at' n a _ h1 q
            refine .inl ⟨a, us, ks, rfl, .inl h2, (pd_keys h3).trans (keysZ_is q2), hl, fun ys p y1 y2 y3 => ?_⟩
            rw [isort_only y1 y2]
            obtain ⟨x1, r1, v1⟩ := r.newL (vds_intsOf (isort ks)) y3
            exact k _ _ _ x1 r1 v1
          · cases e
      | _ => exact .inr (lists e)
/-- dict(d) -/
def fDictC : FA
  | [.ref n], S => match S[n]? with
    | some (.dk kvs) => some (.ref S.length, S ++ [.dk kvs])
    | _ => none
  | _, _ => none
theorem o_dictC {X : Cx} : OpA X (fun xs H Q => ∃ (a : Addr) (kvs : List (Key × V)), xs = [.ref a] ∧ Rd H a (.dK kvs) ∧ ∀ p, H p = none → Q (.ref p) (upd H p (.dK kvs))) fDictC := by
  intro β H S xs vs d S' Q r hv e k
  match xs, e, hv with
  | [.ref n], e, hv =>
    obtain ⟨v, rfl, h⟩ := hv.one
    obtain ⟨a, rfl, h1⟩ := h.ref_inv
    unfold fDictC at e
    dsimp only at e
    cases q : S[n]? with
    | none => rw [q] at e; cases e
    | some ob =>
      rw [q] at e
      cases ob with
      | dk kvs =>
        cases e
        obtain ⟨us, h2, h3⟩ := r.at' n a _ h1 q
        refine ⟨a, us, rfl, .inl h2, fun p hp => ?_⟩
        obtain ⟨x1, r1, v1⟩ := r.newDk h3 hp
        exact k _ _ _ x1 r1 v1
      | _ => cases e
section
variable {X : Cx} {W : WX} {pos apos p : Pos} {e e2 o : Expr} {m m2 mo : Mx}
theorem me_sorted (hc : X.calm = true) (hm : X.mg "sorted" = none) (ha : ME X W e m) (hg : Gl X "sorted" := by rfl) (hs : starEach [e] X.env = [(false, eval e X.env)] := by rfl) : ME X W (.Call (.Name "sorted" p) [e] [] pos) (mCB fSort (mCons m mNil)) :=
  me_cb (L2.CallR.or (call_sortedDI hc) cr_sortedI) o_sort (ma_cons ha ma_nil hs) hm (by decide +kernel) hg (by decide) (by decide) hs rfl
theorem me_dictC (hm : X.mg "dict" = none) (ha : ME X W e m) (hg : Gl X "dict" := by rfl) (hs : starEach [e] X.env = [(false, eval e X.env)] := by rfl) : ME X W (.Call (.Name "dict" p) [e] [] pos) (mCB fDictC (mCons m mNil)) :=
  me_cty call_dictD o_dictC (ma_cons ha ma_nil hs) hm (by decide +kernel) hg (by decide) (by decide) hs rfl
/-- xs.insert(i, y), i not below 0 -/
def fInsert : FM
  | .ref n, [.int i, d], S => match S[n]? with
    | some (.lst xs) => if xs.length < sizeLine ∧ 0 ≤ i ∧ i < 9223372036854775808 then some (.non, S.set n (.lst (xs.take i.toNat ++ [d] ++ xs.drop i.toNat))) else none
    | _ => none
  | _, _, _ => none
def rInsert : V → List V → Hp → VK → Prop := fun x vs H Q => ∃ (l : Addr) (xs : List V) (i : Int) (y : V), x = .ref l ∧ vs = [.int i, y] ∧ H l = some (.lst xs) ∧ xs.length < sizeLine ∧ 0 ≤ i ∧ i < 2 ^ 63 ∧
    Q .non (upd H l (.lst (xs.take i.toNat ++ [y] ++ xs.drop i.toNat)))
theorem Vds.takes {K : PySem.W.Frag} {mg : Str → Option Value} {β : List Addr} {H : Hp} : ∀ (n : Nat) {vs : List V} {ds : List D}, Vds K mg β H vs ds → Vds K mg β H (vs.take n) (ds.take n)
  | 0, _, _, _ => .nil
  | _ + 1, _, _, .nil => .nil
  | n + 1, _, _, .cons h t => .cons h (Vds.takes n t)
theorem Vds.drops {K : PySem.W.Frag} {mg : Str → Option Value} {β : List Addr} {H : Hp} : ∀ (n : Nat) {vs : List V} {ds : List D}, Vds K mg β H vs ds → Vds K mg β H (vs.drop n) (ds.drop n)
  | 0, _, _, h => h
  | _ + 1, _, _, .nil => .nil
  | n + 1, _, _, .cons _ t => Vds.drops n t
theorem o_insert : OpM X "list" ckL rInsert fInsert := by
  refine ⟨fun β H S o v r h e => ckL_ok r h e, ?_⟩
  intro β H S o v xs vs d S' Q r ho hv e k
  match o, xs, e, ho, hv with
  | .ref n, [.int i, y], e, ho, hv =>
    obtain ⟨a, rfl, h1⟩ := ho.ref_inv
    cases hv with
    | cons hi ht =>
      cases hi
      obtain ⟨w, rfl, h2⟩ := ht.one
      unfold fInsert at e
      dsimp only at e
      split at e
      · rename_i ds q
        split at e
        · rename_i hl
          cases e
          obtain ⟨us, h3, h4⟩ := r.lst_at h1 q
          refine ⟨a, us, i, w, rfl, rfl, h3, by rw [h4.length]; exact hl.1, hl.2.1, hl.2.2, ?_⟩
          obtain ⟨r', x'⟩ := r.write (o := .lst (us.take i.toNat ++ [w] ++ us.drop i.toNat)) (b' := .lst (ds.take i.toNat ++ [y] ++ ds.drop i.toNat)) h1 q rfl rfl fun x => ⟨_, upd_same, (((Vds.takes i.toNat h4).append (.cons h2 .nil)).append (Vds.drops i.toNat h4)).ext x⟩
          exact k β _ _ x' r' .non
        · cases e
      · cases e
theorem me_insert (ho : ME X W o mo) (ha : ME X W e m) (ha2 : ME X W e2 m2) (hbase : attributeBase o "insert" X.env (eval o X.env) = eval o X.env := by rfl)
    (hfew : ((backTo pos (starEach [e, e2] X.env)).all (fun x => !x.1) && (backToKw pos (keywordEach [] X.env)).all (fun x => x.1.isSome) && decide ([e, e2].length + ([] : List Keyword).length + (if ([] : List Keyword).isEmpty then 0 else 1) < 30)) = true := by rfl)
    (hline : (apos.endLine == pos.line) = true := by rfl) (hs : starEach [e, e2] X.env = [(false, eval e X.env), (false, eval e2 X.env)] := by rfl) (hs2 : starEach [e2] X.env = [(false, eval e2 X.env)] := by rfl) : ME X W (.Call (.Attribute o "insert" apos) [e, e2] [] pos) (mBM ckL fInsert mo (mCons m (mCons m2 mNil))) :=
  me_bm PySem.F.plainAttrs_list PySem.F.slot_list_insert PySem.F.type_list_insert mt_insert o_insert ho (ma_cons ha (ma_cons ha2 ma_nil hs2) (by rw [hs, hs2])) hbase hfew hline (by rw [hs, hs2]) (by rw [hs2]; rfl)
end
section
variable {S : Sto} {n : Nat} {i : Int} {d : D}
@[simp] theorem fInsert_ref : fInsert (.ref n) [.int i, d] S = match S[n]? with
    | some (.lst xs) => if xs.length < 16777216 ∧ 0 ≤ i ∧ i < 9223372036854775808 then some (.non, S.set n (.lst (xs.take i.toNat ++ [d] ++ xs.drop i.toNat))) else none
    | _ => none := rfl
theorem sort_dk {kvs : List (Key × D)} {ks : List Int} (h : S[n]? = some (.dk kvs)) (q : keysZ kvs = some ks) (hl : ks.length < 64) : fSort [.ref n] S = some (.ref S.length, S ++ [.lst ((isort ks).map D.int)]) := by
  unfold fSort
  dsimp only
  rw [h]
  dsimp only
  rw [q, Option.bind_some, if_pos hl]
theorem sort_lst {ns : List Int} (h : S[n]? = some (.lst (ns.map D.int))) : fSort [.ref n] S = some (.ref S.length, S ++ [.lst ((isort ns).map D.int)]) := by
  have l : lstAt S n = some (ns.map D.int) := by unfold lstAt; rw [h]
  unfold fSort
  dsimp only
  rw [h]
  dsimp only
  rw [l, Option.bind_some, intsOf_map]
  rfl
theorem dictC_dk {kvs : List (Key × D)} (h : S[n]? = some (.dk kvs)) : fDictC [.ref n] S = some (.ref S.length, S ++ [.dk kvs]) := by
  unfold fDictC
  dsimp only
  rw [h]
end
end Eng

set_option maxHeartbeats 2000000
/-! The engine, part 47: a dict is no tuple. -/
namespace PySem.SeqAt
open AutoSeq1 (wpAny_loadPart')
open MeetsSeq MeetsSeq2 MeetsSeq3
theorem tuple_ne_declines_dict (l b : Addr) (items : Array Value) (n : Nat) (dd dd2 : Option Addr) (sl sl2 : Array (Option Value)) (dat : Data) :
    Meets (Builtin.«tuple.__ne__» ⟨[.ref l, .ref b], []⟩) (fun _ R s => s.heap.get? l = some { cls := .type "tuple", dict := dd, data := .seq items n, slots := sl } ∧ s.heap.get? b = some { cls := .type "dict", dict := dd2, data := dat, slots := sl2 } ∧ R (.ok (.ret .notImplemented)) s) :=
  .of_wp fun prog w A R s h => by obtain ⟨hp, g, d, tk, os⟩ := s; obtain ⟨hl, hb, h⟩ := h; have f1 := F.sub_dict_tuple; wp_walk using wpAny_loadPart' hl, wpAny_loadPart' hb; exact ⟨_, rfl, h⟩
end PySem.SeqAt
namespace PySem.W
open Lean Elab Tactic Meta PySem PySem.Calls PyProof.Rows PyProof.V PySem.Spec
section
variable {prog : Program} {w : World} {K : Type} [DecidableEq K] {knd : KeyKind prog w K} {A : Around} {E : Value → Shared → Prop} {s : Shared}
theorem rc_ne_dict_tuple {a b : Addr} {ka : List (K × Value)} {items : Array Value} (da : s.heap.DictOf knd a ka) (tb : IsTup s.heap b items) (hu : A.units < cLine) {Q : Value → Shared → Prop} (h : Q (.bool true) s) : wpAny (model prog w) A (richCompare .NotEq (.ref a) (.ref b)) Q E s := by
  have hda := da.typeIs
  obtain ⟨oa, hoa, hca⟩ := id hda
  obtain ⟨⟨cls2, dd2, data2, sl2⟩, ho2, hc2, n2, hd2⟩ := id tb
  obtain ⟨cls, dd, data, sl⟩ := oa
  simp only at hca hc2 hd2
  subst hca hc2 hd2
  have hne : a ≠ b := fun z => by
    rw [z, ho2] at hoa
    have e := congrArg Obj.cls (Option.some.inj hoa)
    exact absurd e (by simp)
  refine SeqAt.rc_ne_decline_or (k := false) hda ⟨_, ho2, rfl⟩ (by decide) PySem.F.sub_tuple_dict PySem.F.slot_dict_ne PySem.F.slot_tuple_ne_refl (fun Q' hq => ?_)
    (fun Q' hq => call_meets PySem.F.slot_tuple_ne_refl ⟨_, ho2, rfl⟩ PySem.F.entry_tuple_ne (PySem.F.args_tuple_ne_2 _ _) (SeqAt.tuple_ne_declines_dict b a items n2 dd2 dd sl2 sl data) ⟨ho2, hoa, hq⟩)
    (fun Q' hq => wpAny_isSame_ref_other hne hoa ho2 (by simp) hq) (.inr hu) h
  refine wpAny_call_entry PySem.F.slot_dict_ne hda PySem.F.entry_dict_ne ?_ (PySem.F.args_dict_ne_2 _ _)
  show wpAny _ _ (Builtin.Dict.dictSlotArgs "__ne__" ⟨[.ref a, .ref b], []⟩ >>= _) _ _ s
  refine wpAny_bind ?_
  unfold Builtin.Dict.dictSlotArgs
  refine wpAny_bind (wpAny_notOrdered_dict hda ?_)
  show wpAny _ _ (pure (Value.ref a, Value.ref b)) _ _ s
  refine wpAny_pure ?_
  refine wpAny_bind (wpAny_isInstance (T := "tuple") ⟨_, ho2, rfl⟩ PySem.F.sub_tuple_dict ?_)
  simp only [Bool.not_false, if_true]
  refine wpAny_bind (wpAny_rule ?_)
  exact wpAny_pure ⟨_, rfl, hq⟩
end
end PySem.W
namespace Eng
open PySem PySem.Spec PyProof.Rows L2
variable [TabCfg]
/-- what is a dict and what a tuple, compared -/
def rNeDT (K : PySem.W.Frag) : R2 := fun x y H Q => ∃ a b ks ys, x = .ref a ∧ y = .ref b ∧ H a = some (.dK ks) ∧ SqT K H b ys ∧ Q (.bl true) H
theorem op_neDT {X : Cx} (hu : X.A.units < cLine) : OpR X (compareOp .NotEq) (rNeDT X.K) := by
  intro pins s σ H x y v u Q I rx ry h
  obtain ⟨a, b, ks, ys, rfl, rfl, ea, eb, q⟩ := h
  obtain rfl : v = Value.ref a := rx
  obtain rfl : u = Value.ref b := ry
  obtain ⟨_, ya, va, ra, da⟩ := (show ObjOk X.prog X.w H s.heap a (.dK ks) from I.hok a _ ea)
  obtain ⟨its, r1, tb, _⟩ := I.tuple eb
  exact PySem.W.rc_ne_dict_tuple (knd := mixKind X.prog X.w) da tb hu ⟨.bl true, H, I, rfl, q⟩
def fNeT : F2
  | .ref n, .tup ys, S => match S[n]? with
    | some (.dk _) => some (.bl true, S)
    | _ => fNe (.ref n) (.tup ys) S
  | x, y, S => fNe x y S
theorem fNeT_of {S : Sto} {x : D} (h : ∀ n ks, x = .ref n → S[n]? ≠ some (.dk ks)) (y : D) : fNeT x y S = fNe x y S := by
  cases x with
  | ref n =>
    cases y with
    | tup ys =>
      unfold fNeT
      dsimp only
      cases q : S[n]? with
      | none => rfl
      | some ob =>
        cases ob with
        | dk ks => exact (h n ks rfl q).elim
        | _ => rfl
    | _ => rfl
  | _ => rfl
theorem fNeT_nt {S : Sto} {x y : D} (h : ∀ ys, y ≠ .tup ys) : fNeT x y S = fNe x y S := by
  cases x with
  | ref n =>
    cases y with
    | tup ys => exact (h ys rfl).elim
    | _ => rfl
  | _ => rfl
theorem o_neT {X : Cx} : Op2 X (fun x y H Q => rNeDT X.K x y H Q ∨ rNeA X x y H Q) fNeT := by
  intro β H S x y v u d S' Q r hx hy e k
  by_cases h : ∃ n ys ks, x = .ref n ∧ y = .tup ys ∧ S[n]? = some (.dk ks)
  · obtain ⟨n, ys, ks, rfl, rfl, h⟩ := h
    unfold fNeT at e
    dsimp only at e
    rw [h] at e
    cases e
    obtain ⟨a, rfl, h1⟩ := hx.ref_inv
    obtain ⟨us, h2, h3⟩ := r.at' n a _ h1 h
    obtain ⟨b, ws, rfl, h4, _⟩ := hy.tup_at
    exact .inl ⟨a, b, us, ws, rfl, rfl, h2, .of h4, k β H _ .refl r (.bl _)⟩
  · have e2 : fNe x y S = some (d, S') := by
      rw [← e]
      by_cases hy2 : ∃ ys, y = .tup ys
      · obtain ⟨ys, rfl⟩ := hy2
        exact (fNeT_of (fun n ks z q => h ⟨n, ys, ks, z, rfl, q⟩) _).symm
      · exact (fNeT_nt fun ys z => hy2 ⟨ys, z⟩).symm
    exact .inr (o_ne _ _ _ _ _ _ _ _ _ _ r hx hy e2 k)
theorem op_neT {X : Cx} {k : Nat} (hr : Room k X.A) : OpR X (compareOp .NotEq) (fun x y H Q => rNeDT X.K x y H Q ∨ rNeA X x y H Q) := OpR.or (op_neDT (by have := hr.units; omega)) (op_neA hr)
section
variable {S : Sto} {n : Nat} {x : D} {ys : List D}
theorem fNeT_dk {ks : List (Key × D)} (h : S[n]? = some (.dk ks)) : fNeT (.ref n) (.tup ys) S = some (.bl true, S) := by
  unfold fNeT
  dsimp only
  rw [h]
end
end Eng

set_option maxHeartbeats 2000000
/-! The engine, part 48: list(d.items()). -/
namespace Eng
open PySem PySem.Spec PyProof.Rows L2
variable [TabCfg]
def kD : Key → D
  | .inl i => .int i
  | .inr z => .str z
theorem vd_key {K : PySem.W.Frag} {mg : Str → Option Value} {β : List Addr} {H : Hp} (k : Key) : Vd K mg β H (kV k) (kD k) := by
  cases k with
  | inl i => exact .int i
  | inr z => exact .str z
/-- a dict's pairs as tuples -/
def prs (kvs : List (Key × D)) : List D := kvs.map fun q => .tup [kD q.1, q.2]
def mLstItems (m : Mx) : Mx := fun ρ S => (m ρ S).bind fun d S1 => match d with
  | .ref n => match S1[n]? with
    | some (.dk kvs) => .ok (.ref S1.length) (S1 ++ [.lst (prs kvs)])
    | _ => .stuck
  | _ => .stuck
theorem vds_prs {K : PySem.W.Frag} {mg : Str → Option Value} {β : List Addr} {H : Hp} : ∀ {ts : List Addr} {xs : List (Key × V)} {kvs : List (Key × D)}, Paired (fun (t : Addr) (q : Key × V) => H t = some (.tup [kV q.1, q.2])) ts xs → Pd K mg β H xs kvs → Vds K mg β H (ts.map V.ref) (prs kvs)
  | _, _, _, .nil, .nil => .nil
  | _, _, _, .cons h t, .cons h2 t2 => .cons (.tup h (.cons (by rw [h2.1]; exact vd_key _) (.cons h2.2 .nil))) (vds_prs t t2)
theorem paired_imp {α γ : Type} {F G : α → γ → Prop} : ∀ {xs : List α} {ys : List γ}, Paired F xs ys → (∀ x ∈ xs, ∀ y, F x y → G x y) → Paired G xs ys
  | _, _, .nil, _ => .nil
  | _, _, .cons h t, k => .cons (k _ (List.mem_cons_self ..) _ h) (paired_imp t fun x hx => k x (List.mem_cons_of_mem _ hx))
section
variable {X : Cx} {W : WX} {e : Expr} {m : Mx} {pos p apos cpos : Pos}
theorem me_listItems (hc : X.calm = true) (hm : X.mg "list" = none) (h : ME X W e m) (hg : Gl X "list" := by rfl) (hbase : attributeBase e "items" X.env (eval e X.env) = eval e X.env := by rfl) (hline : (apos.endLine == cpos.line) = true := by rfl)
    (hs : starEach [.Call (.Attribute e "items" apos) [] [] cpos] X.env = (false, eval (.Call (.Attribute e "items" apos) [] [] cpos) X.env) :: starEach [] X.env := by rfl) :
    ME X W (.Call (.Name "list" p) [.Call (.Attribute e "items" apos) [] [] cpos] [] pos) (mLstItems m) := by
  refine ⟨PE.weak (LiI.pe_listItems hc h.pe hg hm (by decide +kernel) hbase hline hs) fun σ H Q ⟨β, S, ρ, rl, en, q⟩ => ⟨β, S, ρ, rl, en, (Po.bind q).mono fun d β1 S1 H1 x1 r1 q1 v hv => ?_⟩⟩
  cases d with
  | ref n =>
    obtain ⟨a, rfl, h1⟩ := hv.ref_inv
    dsimp only at q1
    cases q2 : S1[n]? with
    | none => rw [q2] at q1; exact q1.elim
    | some ob =>
      rw [q2] at q1
      cases ob with
      | dk kvs =>
        obtain ⟨xs, h2, h3⟩ := r1.at' n a _ h1 q2
        refine ⟨a, xs, rfl, h2, fun H' l ts kp hl hts hn hl' hp => ?_⟩
        -- what stands there but for the list
        obtain ⟨H2, hH2⟩ : ∃ H2 : Hp, H2 = fun b => if b = l then none else H' b := ⟨_, rfl⟩
        have k2 : ∀ b o, H1 b = some o → H2 b = some o := fun b o e => by
          have hb : b ≠ l := fun z => by rw [z, hl] at e; cases e
          rw [hH2]
          show (if b = l then none else H' b) = some o
          rw [if_neg hb]
          exact kp b o e
        have l2 : H2 l = none := by rw [hH2]; exact if_pos rfl
        have up : upd H2 l (.lst (ts.map V.ref)) = H' := by
          funext b
          by_cases hb : b = l
          · subst hb
            rw [upd_same, hl']
          · rw [upd_ne hb, hH2]
            exact if_neg hb
        have x2 : Xt X.K β1 H1 β1 H2 := ⟨⟨[], by simp⟩, fun a xs h => k2 _ _ h, fun a xs h => k2 _ _ h, fun a q h => k2 _ _ h, fun a W cl c h => k2 _ _ h⟩
        have r2 := r1.same x2 k2
        have hp2 : Paired (fun (t : Addr) (q : Key × V) => H2 t = some (.tup [kV q.1, q.2])) ts xs := by
          refine paired_imp hp fun t ht q e => ?_
          have hb : t ≠ l := fun z => hn (z ▸ ht)
          rw [hH2]
          show (if t = l then none else H' t) = _
          rw [if_neg hb]
          exact e
        obtain ⟨xn, rn, vn⟩ := r2.newL (vds_prs hp2 (h3.ext x2)) l2
        rw [up] at xn rn vn
        exact q1 _ _ (x2.trans xn) rn _ vn
      | _ => exact q1.elim
  | _ => exact q1.elim
end
section
variable {S S1 : Sto} {ρ : Env'} {m : Mx} {n : Nat} {kvs : List (Key × D)}
theorem lstItems_of (h : m ρ S = .ok (.ref n) S1) (q : S1[n]? = some (.dk kvs)) : mLstItems m ρ S = .ok (.ref S1.length) (S1 ++ [.lst (prs kvs)]) := by
  unfold mLstItems
  rw [h]
  show (match S1[n]? with
    | some (.dk kvs) => R.ok (D.ref S1.length) (S1 ++ [Ob.lst (prs kvs)])
    | _ => .stuck) = _
  rw [q]
end
end Eng

set_option maxHeartbeats 2000000
/-! The engine, part 49: dicts of texts compared. -/
namespace Eng
open PySem PySem.Spec PyProof.Rows L2
/-- a dict's text at a key -/
def txAt (ls : List (Key × Str)) (k : Key) : Option Str := (ls.find? fun q => decide (q.1 = k)).map (·.2)
def hitT (ls : List (Key × Str)) (p : Key × Str) : Bool := match txAt ls p.1 with
  | some z => p.2 == z
  | none => false
def eqTx (ks ls : List (Key × Str)) : Bool := ks.length == ls.length && ks.all (hitT ls)
def vT (ks : List (Key × Str)) : List (Key × V) := ks.map fun p => (p.1, V.str p.2)
theorem valV_vT (k : Key) : ∀ ls : List (Key × Str), valV (vT ls) k = (txAt ls k).map V.str
  | [] => rfl
  | q :: r => by
    have ih := valV_vT k r
    unfold valV vT txAt at *
    rw [List.map_cons, List.find?_cons, List.find?_cons]
    dsimp only
    by_cases c : decide (q.1 = k) = true
    · rw [c]
      rfl
    · have c' : decide (q.1 = k) = false := by simpa using c
      rw [c']
      exact ih
theorem hitsT {A : Around} {s : Shared} {ls : List (Key × Str)} {vb : List (Key × Value)} (rb : KV (vT ls) vb) : ∀ {ks : List (Key × Str)} {va : List (Key × Value)}, KV (vT ks) va → PySem.W.KeqHits A s vb va (ks.all (hitT ls))
  | [], _, ra => by
    cases ra
    exact .nil
  | p :: ks, _, ra => by
    cases ra with
    | @cons _ q _ qs h t =>
      obtain ⟨k, v⟩ := q
      obtain ⟨h1, h2⟩ := h
      have h1' : p.1 = k := h1
      have rr := rb.val p.1
      rw [valV_vT, h1'] at rr
      obtain ⟨tk, hv⟩ := (show RelV (V.str p.2) v from h2)
      subst hv
      rw [List.all_cons]
      cases e : txAt ls p.1 with
      | none =>
        rw [← h1', e] at rr
        have e2 : hitT ls p = false := by unfold hitT; rw [e]
        rw [e2, Bool.false_and]
        refine .miss ?_
        cases q : valueAt vb p.1 with
        | none => rw [h1'] at q; exact q
        | some y =>
          rw [q] at rr
          exact rr.elim
      | some z =>
        rw [← h1', e] at rr
        obtain ⟨y, hy, t2, rfl⟩ := rr.some_of
        have e2 : hitT ls p = (p.2 == z) := by unfold hitT; rw [e]
        rw [e2]
        rw [h1'] at hy
        exact .hit hy (SeqAt.EqAt.str_str p.2 tk z t2) (hitsT rb t)
def rEqTx (eq : Bool) : R2 := fun x y H Q => ∃ a b ks ls, x = .ref a ∧ y = .ref b ∧ H a = some (.dK (vT ks)) ∧ H b = some (.dK (vT ls)) ∧ Q (.bl (eqTx ks ls == eq)) H
section
variable {X : Cx}
theorem op_eqTx (hu : X.A.units < cLine) : OpR X (compareOp .Eq) (rEqTx true) := by
  intro pins s σ H x y v u Q I rx ry h
  obtain ⟨a, b, ks, ls, rfl, rfl, ea, eb, q⟩ := h
  obtain rfl : v = Value.ref a := rx
  obtain rfl : u = Value.ref b := ry
  obtain ⟨_, ya, va, ra, da⟩ := (show ObjOk X.prog X.w H s.heap a (.dK (vT ks)) from I.hok a _ ea)
  obtain ⟨_, yb, vb, rb, db⟩ := (show ObjOk X.prog X.w H s.heap b (.dK (vT ls)) from I.hok b _ eb)
  have h1 : va.length = ks.length := by rw [← ra.length]; unfold vT; rw [List.length_map]
  have h2 : vb.length = ls.length := by rw [← rb.length]; unfold vT; rw [List.length_map]
  refine PySem.W.keq_eq (knd := mixKind X.prog X.w) (r := ks.all (hitT ls)) ya yb da db hu (fun _ => hitsT rb ra) (fin_bl I q ?_)
  rw [h1, h2]
  unfold eqTx
  simp
theorem op_neTx (hu : X.A.units < cLine) : OpR X (compareOp .NotEq) (rEqTx false) := by
  intro pins s σ H x y v u Q I rx ry h
  obtain ⟨a, b, ks, ls, rfl, rfl, ea, eb, q⟩ := h
  obtain rfl : v = Value.ref a := rx
  obtain rfl : u = Value.ref b := ry
  obtain ⟨_, ya, va, ra, da⟩ := (show ObjOk X.prog X.w H s.heap a (.dK (vT ks)) from I.hok a _ ea)
  obtain ⟨_, yb, vb, rb, db⟩ := (show ObjOk X.prog X.w H s.heap b (.dK (vT ls)) from I.hok b _ eb)
  have h1 : va.length = ks.length := by rw [← ra.length]; unfold vT; rw [List.length_map]
  have h2 : vb.length = ls.length := by rw [← rb.length]; unfold vT; rw [List.length_map]
  refine PySem.W.keq_ne (knd := mixKind X.prog X.w) (r := ks.all (hitT ls)) ya yb da db hu (fun _ => hitsT rb ra) (fin_bl I q ?_)
  rw [h1, h2]
  unfold eqTx
  simp
end
variable [TabCfg]
/-- a dict of texts -/
def txOf : List (Key × D) → Option (List (Key × Str))
  | [] => some []
  | (k, .str z) :: r => (txOf r).map ((k, z) :: ·)
  | _ => none
theorem txOf_is {K : PySem.W.Frag} {mg : Str → Option Value} {β : List Addr} {H : Hp} : ∀ {xs : List (Key × V)} {kvs : List (Key × D)} {ks : List (Key × Str)}, Pd K mg β H xs kvs → txOf kvs = some ks → xs = vT ks
  | _, [], _, .nil, h => by cases h; rfl
  | _, (k, .str z) :: r, ks, .cons h t, e => by
    unfold txOf at e
    cases q : txOf r with
    | none => rw [q] at e; cases e
    | some ms =>
      rw [q] at e
      cases e
      have ih := txOf_is t q
      obtain ⟨h1, h2⟩ := h
      rename_i a b
      obtain ⟨k', v⟩ := a
      cases h2
      cases h1
      rw [ih]
      rfl
def dxEq (eq : Bool) (g : F2) : F2
  | .ref n, .ref m, S => match S[n]?, S[m]? with
    | some (.dk a), some (.dk c) => (txOf a).bind fun ks => (txOf c).map fun ls => (.bl (eqTx ks ls == eq), S)
    | _, _ => g (.ref n) (.ref m) S
  | x, y, S => g x y S
theorem dxEq_dk {eq : Bool} {g : F2} {S : Sto} {n m : Nat} {a c : List (Key × D)} (h1 : S[n]? = some (.dk a)) (h2 : S[m]? = some (.dk c)) : dxEq eq g (.ref n) (.ref m) S = (txOf a).bind fun ks => (txOf c).map fun ls => (.bl (eqTx ks ls == eq), S) := by
  unfold dxEq
  dsimp only
  rw [h1, h2]
theorem dxEq_of {eq : Bool} {g : F2} {S : Sto} {x y : D} (h : ¬ ∃ n m a c, x = .ref n ∧ y = .ref m ∧ S[n]? = some (.dk a) ∧ S[m]? = some (.dk c)) : dxEq eq g x y S = g x y S := by
  cases x with
  | ref n =>
    cases y with
    | ref m =>
      unfold dxEq
      dsimp only
      cases q : S[n]? with
      | none => rfl
      | some ob =>
        cases ob with
        | dk a =>
          cases q2 : S[m]? with
          | none => rfl
          | some ob2 =>
            cases ob2 with
            | dk c => exact (h ⟨n, m, a, c, rfl, rfl, q, q2⟩).elim
            | _ => rfl
        | _ => rfl
    | _ => rfl
  | _ => rfl
theorem o_dxEq {X : Cx} {eq : Bool} {g : F2} {r0 : R2} (o : Op2 X r0 g) : Op2 X (fun x y H Q => rEqTx eq x y H Q ∨ r0 x y H Q) (dxEq eq g) := by
  intro β H S x y v u d S' Q r hx hy e k
  by_cases h : ∃ n m a c, x = .ref n ∧ y = .ref m ∧ S[n]? = some (.dk a) ∧ S[m]? = some (.dk c)
  · obtain ⟨n, m, a, c, rfl, rfl, h1, h2⟩ := h
    rw [dxEq_dk h1 h2] at e
    cases q1 : txOf a with
    | none => rw [q1] at e; cases e
    | some ks =>
      cases q2 : txOf c with
      | none => rw [q1, q2] at e; cases e
      | some ls =>
        rw [q1, q2] at e
        cases e
        obtain ⟨p, rfl, g1⟩ := hx.ref_inv
        obtain ⟨p2, rfl, g2⟩ := hy.ref_inv
        obtain ⟨xs, k1, k2⟩ := r.at' n p _ g1 h1
        obtain ⟨ys, k3, k4⟩ := r.at' m p2 _ g2 h2
        rw [txOf_is k2 q1] at k1
        rw [txOf_is k4 q2] at k3
        exact .inl ⟨p, p2, ks, ls, rfl, rfl, k1, k3, k β H _ .refl r (.bl _)⟩
  · rw [dxEq_of h] at e
    exact .inr (o _ _ _ _ _ _ _ _ _ _ r hx hy e k)
theorem op_eqDx {X : Cx} {k : Nat} (hr : Room k X.A) : OpR X (compareOp .Eq) (fun x y H Q => rEqTx true x y H Q ∨ rEqA X x y H Q) := OpR.or (op_eqTx (by have := hr.units; omega)) (op_eqA hr)
theorem op_neDx {X : Cx} {k : Nat} (hr : Room k X.A) : OpR X (compareOp .NotEq) (fun x y H Q => rEqTx false x y H Q ∨ rNeA X x y H Q) := OpR.or (op_neTx (by have := hr.units; omega)) (op_neA hr)
theorem o_eqDx {X : Cx} : Op2 X (fun x y H Q => rEqTx true x y H Q ∨ rEqA X x y H Q) (dxEq true fEq) := o_dxEq o_eq
theorem o_neDx {X : Cx} : Op2 X (fun x y H Q => rEqTx false x y H Q ∨ rNeA X x y H Q) (dxEq false fNe) := o_dxEq o_ne
end Eng

set_option maxHeartbeats 2000000
/-! The engine, part 50: sorted(d.items()), the keys whole numbers, the values texts. -/
namespace Eng
open PySem PySem.Spec PyProof.Rows L2
variable [TabCfg]
def insP (x : Int × Str) : List (Int × Str) → List (Int × Str)
  | [] => [x]
  | y :: r => if x.1 ≤ y.1 then x :: y :: r else y :: insP x r
def isortP : List (Int × Str) → List (Int × Str)
  | [] => []
  | x :: r => insP x (isortP r)
theorem insP_perm (x : Int × Str) : ∀ l, (insP x l).Perm (x :: l)
  | [] => .refl _
  | y :: r => by
    unfold insP
    split
    · exact .refl _
    · exact ((insP_perm x r).cons y).trans (.swap x y r)
theorem isortP_perm : ∀ l, (isortP l).Perm l
  | [] => .refl _
  | x :: r => (insP_perm x _).trans ((isortP_perm r).cons x)
theorem insP_sorted (x : Int × Str) : ∀ {l : List (Int × Str)}, l.Pairwise (fun e f => e.1 ≤ f.1) → (insP x l).Pairwise (fun e f => e.1 ≤ f.1)
  | [], _ => by simp [insP]
  | y :: r, h => by
    obtain ⟨h1, h2⟩ := List.pairwise_cons.mp h
    unfold insP
    split
    · rename_i c
      refine List.pairwise_cons.mpr ⟨fun z hz => ?_, h⟩
      rcases List.mem_cons.mp hz with rfl | hz
      · exact c
      · have := h1 z hz
        omega
    · rename_i c
      refine List.pairwise_cons.mpr ⟨fun z hz => ?_, insP_sorted x h2⟩
      rcases List.mem_cons.mp ((insP_perm x r).mem_iff.mp hz) with rfl | hz
      · omega
      · exact h1 z hz
theorem isortP_sorted : ∀ l : List (Int × Str), (isortP l).Pairwise (fun e f => e.1 ≤ f.1)
  | [] => .nil
  | x :: r => insP_sorted x (isortP_sorted r)
theorem sorted_one : ∀ {xs ys : List (Int × Str)}, (xs.map (·.1)).Nodup → xs.Perm ys → xs.Pairwise (fun e f => e.1 ≤ f.1) → ys.Pairwise (fun e f => e.1 ≤ f.1) → xs = ys
  | [], ys, _, p, _, _ => p.nil_eq
  | x :: xs, [], _, p, _, _ => by
    have := p.length_eq
    simp at this
  | x :: xs, y :: ys, n, p, hx, hy => by
    obtain ⟨x1, x2⟩ := List.pairwise_cons.mp hx
    obtain ⟨y1, y2⟩ := List.pairwise_cons.mp hy
    simp only [List.map_cons, List.nodup_cons] at n
    have e : x = y := by
      rcases List.mem_cons.mp (p.mem_iff.mpr (List.mem_cons_self (a := y) (l := ys))) with h | h
      · exact h.symm
      · rcases List.mem_cons.mp (p.mem_iff.mp (List.mem_cons_self (a := x) (l := xs))) with h' | h'
        · exact h'
        · have a1 := x1 y h
          have a2 := y1 x h'
          have a3 : x.1 = y.1 := by omega
          exact (n.1 (by rw [a3]; exact List.mem_map.mpr ⟨y, h, rfl⟩)).elim
    subst e
    rw [sorted_one n.2 (List.perm_cons x |>.mp p) x2 y2]
theorem isortP_only {ys ks : List (Int × Str)} (hn : (ks.map (·.1)).Nodup) (h1 : ys.Perm ks) (h2 : ys.Pairwise (fun e f => e.1 ≤ f.1)) : ys = isortP ks :=
  sorted_one ((h1.map (·.1)).nodup_iff.mpr hn) (h1.trans (isortP_perm ks).symm) h2 (isortP_sorted ks)
/-! #### the sort's questions -/
def PairZ (h : Heap) (v : Value) (i : Int) (z : Str) : Prop := ∃ (a : Addr) (t u : Tok), v = .ref a ∧ IsTup h a #[.int i t, .str z u]
def keyZ (h : Heap) (v : Value) : Int := match DT.seqAt0 h (DT.refOf (some v)) with
  | some (.int i _) => i
  | _ => 0
theorem PairZ.key {h : Heap} {v : Value} {i : Int} {z : Str} (x : PairZ h v i z) : keyZ h v = i := by
  obtain ⟨a, t, u, rfl, h1⟩ := x
  unfold keyZ
  show (match DT.seqAt0 h a with
    | some (.int i _) => i
    | _ => 0) = i
  rw [DT.seqAt0_of h1]
  rfl
theorem firstsZ {h : Heap} {M : Int → Str} : ∀ vs : List Value, (∀ v ∈ vs, ∃ i, PairZ h v i (M i)) → ∃ fs : List Value, PySem.W.KatTups h vs fs ∧ fs.length = vs.length ∧ ∀ f ∈ fs, ∃ n t, f = Value.int n t
  | [], _ => ⟨[], PySem.W.KatTups.nil, rfl, fun f hf => by simp at hf⟩
  | v :: vs, x => by
    obtain ⟨fs, k, hl, hi⟩ := firstsZ vs fun u hu => x u (List.mem_cons_of_mem _ hu)
    obtain ⟨i, a, t, u, rfl, ⟨o, ho, hc, n, hd⟩⟩ := x v (List.mem_cons_self ..)
    refine ⟨.int i t :: fs, PySem.W.KatTups.cons ho hc hd rfl k, by rw [List.length_cons, List.length_cons, hl], fun f hf => ?_⟩
    rcases List.mem_cons.mp hf with rfl | hf
    · exact ⟨i, t, rfl⟩
    · exact hi f hf
theorem kind_zs {prog : Program} {w : World} {A : Around} {E : Value → Shared → Prop} {s : Shared} {vs : List Value} {M : Int → Str} (h2 : 2 ≤ vs.length) (x : ∀ v ∈ vs, ∃ i, PairZ s.heap v i (M i)) (Q : SortKind → Shared → Prop)
    (h : ∀ κ, TS.Cmp prog w A s κ (pairsOf vs) (fun v => keyZ s.heap v) → Q κ s) : wpAny (model prog w) A (keyKind' vs.toArray) Q E s := by
  obtain ⟨fs, k, hl, hi⟩ := firstsZ vs x
  refine PySem.W.kat_kind (T := Value.type "int") k (by omega) (fun f hf => ?_) rfl (h _ ?_)
  · obtain ⟨n, t, rfl⟩ := hi f hf
    exact PySem.W.Looks.of_pure rfl
  · intro p q hp hq Q' E' hQ
    rw [pairsOf_toList] at hp hq
    obtain ⟨i, pi⟩ := x _ (mem_zip_self hp).2
    obtain ⟨j, pj⟩ := x _ (mem_zip_self hq).2
    have ei := pi.key
    have ej := pj.key
    have hQ' : Q' (decide (i < j)) s := by
      have z : decide (keyZ s.heap p.1 < keyZ s.heap q.1) = decide (i < j) := by rw [ei, ej]
      rw [← z]
      exact hQ
    obtain ⟨a, t, u, e1, ⟨o, ho, hc, n, hd⟩⟩ := pi
    obtain ⟨a', t', u', e2, ⟨o', ho', hc', n', hd'⟩⟩ := pj
    rw [e1, e2]
    refine PySem.W.kat_lt ho hd ho' hd' ?_
    show PySem.W.KatLex prog w A _ false Q' [(Value.int i t, Value.int j t'), (Value.str (M i) u, Value.str (M j) u')] 0 s
    refine PySem.W.kat_cons (wpAny_eqBool_int ?_)
    by_cases e : i = j
    · subst e
      rw [beq_self_eq_true]
      refine PySem.W.kat_yes (PySem.W.kat_cons (wpAny_eqBool_str ?_))
      rw [decide_eq_true rfl]
      refine PySem.W.kat_yes (PySem.W.kat_nil ?_)
      rw [show decide (i < i) = false from decide_eq_false (Int.lt_irrefl _)] at hQ'
      exact hQ'
    · rw [show (i == j) = false from beq_eq_false_iff_ne.mpr e]
      exact PySem.W.kat_no (TS.oneLt_ints _ hQ')
/-! #### the rules by values -/
abbrev entZ (p : Int × Str) : Key × V := (Sum.inl p.1, V.str p.2)
def rItemsZ : V → List V → Hp → VK → Prop := fun x xs H Q => ∃ (a : Addr) (kvs : List (Key × V)), x = .ref a ∧ xs = [] ∧ H a = some (.dK kvs) ∧ ∀ p, H p = none → Q (.ref p) (upd H p (L2.DX.itemsO p a))
theorem mt_itemsZ {X : Cx} : MtR X "dict.items" rItemsZ := by
  intro pins s σ H x xs v us Q I rx rxs h
  obtain ⟨a, kvs, rfl, rfl, ha, q⟩ := h
  cases rx
  cases rxs
  obtain ⟨hz, hs0, vs, kv, hdo⟩ := I.hok a _ ha
  obtain ⟨o, es, ep, ho, hx, hdat, hk, hp, hn⟩ := id hdo
  refine DT.callItems (es := es) (ep := ep) hs0 ⟨o, ho, hx, hdat⟩ ?_
  have hf : H s.heap.objs.size = none := I.hok.fresh (Nat.le_refl _)
  exact ⟨.ref s.heap.objs.size, upd H s.heap.objs.size (L2.DX.itemsO s.heap.objs.size a), I.laid (t' := s.toks) (fun b u e => Heap.get?_push_of_some _ e) (Nat.le_refl _) (L2.DX.itemsO_ok (Heap.get?_push_size _ rfl)), rfl, q _ hf⟩
theorem pairs_get {prog : Program} {w : World} {κ : Type} [DecidableEq κ] {knd : KeyKind prog w κ} {es : List DictEntry} {kvs : List (κ × Value)} (h : Pairs knd es kvs) : ∀ {j : Nat} {e : DictEntry}, es[j]? = some e → ∃ kv, kvs[j]? = some kv ∧ knd.is kv.1 e.key = true ∧ e.val = kv.2 := by
  induction h with
  | nil => intro j e he; cases he
  | cons h1 h2 _ ih =>
    intro j e he
    cases j with
    | zero =>
      cases he
      exact ⟨_, rfl, h1, h2⟩
    | succ j => exact ih he
theorem find_nodup {ks : List (Int × Str)} (hn : (ks.map (·.1)).Nodup) {e : Int × Str} (he : e ∈ ks) : ((ks.find? fun p => decide (p.1 = e.1)).map (fun q : Int × Str => q.2)).getD ("" : Str) = e.2 := by
  induction ks with
  | nil => cases he
  | cons x r ih =>
    simp only [List.map_cons, List.nodup_cons] at hn
    rw [List.find?_cons]
    by_cases c : x.1 = e.1
    · rw [decide_eq_true c]
      rcases List.mem_cons.mp he with rfl | he
      · rfl
      · exact (hn.1 (by rw [c]; exact List.mem_map.mpr ⟨e, he, rfl⟩)).elim
    · rw [decide_eq_false c]
      rcases List.mem_cons.mp he with rfl | he
      · exact (c rfl).elim
      · exact ih hn.2 he
def rSortZ : List V → Hp → VK → Prop := fun vs H Q => ∃ (p a : Addr) (ks : List (Int × Str)), vs = [.ref p] ∧ H p = some (L2.DX.itemsO p a) ∧ H a = some (.dK (ks.map entZ)) ∧ ks.length < 64 ∧
  ((ks.map (·.1)).Nodup → ∀ (H' : Hp) (l : Addr) (ps : List (Addr × Int × Str)), (∀ b o, H b = some o → H' b = some o) → H l = none → (∀ z ∈ ps, H z.1 = none) → (∀ z ∈ ps, z.1 ≠ l) → (ps.map (·.2)).Perm ks → (ps.map (·.2)).Pairwise (fun e f => e.1 ≤ f.1) → H' l = some (.lst (ps.map fun z => V.ref z.1)) →
    (∀ z ∈ ps, H' z.1 = some (.tup [.int z.2.1, .str z.2.2])) → Q (.ref l) H')
theorem cr_sortZ {X : Cx} (hc : X.calm = true) : CallR X (.builtin "sorted") rSortZ := by
  intro pins s σ H xs us Q I r h
  obtain ⟨p, a, ks, rfl, hp, ha, h64, q⟩ := h
  obtain rfl := Vals.ref1 r
  have view : s.heap.IsItemsView p a := (show ObjOk X.prog X.w H s.heap p (L2.DX.itemsO p a) from I.hok p _ hp).1
  obtain ⟨hz, hs0, vs, kv, hdo⟩ := I.hok a _ ha
  obtain ⟨o, es, ep, ho, hx, hdat, hkk, hpp, hn⟩ := id hdo
  have l1 : (ks.map entZ).length = vs.length := Paired.length kv
  rw [List.length_map] at l1
  have l2 : es.size = vs.length := by rw [← Array.length_toList]; exact hpp.length
  have hnod : (ks.map (·.1)).Nodup := by
    have e1 : vs.map (·.1) = (ks.map entZ).map (·.1) := by
      refine List.ext_getElem? fun i => ?_
      rw [List.getElem?_map, List.getElem?_map]
      cases q1 : vs[i]? with
      | none => rw [List.getElem?_eq_none (by rw [List.length_map, l1]; exact List.getElem?_eq_none_iff.mp q1)]; rfl
      | some kv' =>
        obtain ⟨k, v⟩ := kv'
        obtain ⟨x, hx1, hx2⟩ := KV.at' kv q1
        rw [hx1]
        rfl
    rw [e1, List.map_map] at hn
    have : (ks.map (·.1)).map (Sum.inl : Int → Key) = ks.map ((fun x => x.1) ∘ entZ) := by rw [List.map_map]; rfl
    rw [← this] at hn
    exact List.Pairwise.imp (fun {a b} h e => h (congrArg Sum.inl e)) (List.pairwise_map.mp hn)
  have hh : X.A.handled = none := I.ok.hd hc
  refine DT.sortedI (es := es) (ep := ep) hh view ⟨o, ho, hx, hdat⟩ (by rw [sizeLine_eq]; omega) fun h' tk as hk hlt hl hG => ?_
  have lak : as.length = ks.length := by omega
  have nd : as.Nodup := List.Pairwise.imp (fun h => Nat.ne_of_lt h) hG.rise
  -- the pairs that were made
  have pr : ∀ (j : Nat) (b : Addr), as[j]? = some b → ∃ (e : Int × Str) (t u : Tok), ks[j]? = some e ∧ h'.get? b = some { cls := .type "tuple", data := .seq #[Value.int e.1 t, Value.str e.2 u] } := by
    intro j b hj
    obtain ⟨en, he, hg⟩ := hG.pairs j b hj
    rw [← Array.getElem?_toList] at he
    obtain ⟨⟨k, v⟩, k1, k2, k3⟩ := pairs_get hpp he
    obtain ⟨x, x1, x2⟩ := KV.at' kv k1
    rw [List.getElem?_map] at x1
    cases hkj : ks[j]? with
    | none => rw [hkj] at x1; cases x1
    | some e =>
      rw [hkj] at x1
      have e3 : entZ e = (k, x) := Option.some.inj x1
      have e4 : Sum.inl e.1 = k := congrArg Prod.fst e3
      have e5 : V.str e.2 = x := congrArg Prod.snd e3
      subst e4 e5
      obtain ⟨t, et⟩ : ∃ t, en.key = Value.int e.1 t := relV_key (show keyIs (Sum.inl e.1) en.key = true from k2)
      obtain ⟨u, eu⟩ : ∃ u, v = Value.str e.2 u := x2
      exact ⟨e, t, u, rfl, by rw [hg, et, k3, eu]⟩
  -- the heap of the sort
  have hob : (h'.push { cls := .type "list", data := .seq (as.map Value.ref).toArray }).get? h'.objs.size = some (seqObj "list" (as.map Value.ref).toArray 0) := Heap.get?_push_size _ rfl
  have kb : ∀ b o, s.heap.get? b = some o → (h'.push { cls := .type "list", data := .seq (as.map Value.ref).toArray }).get? b = some o := fun b o e => Heap.get?_push_of_some _ (hk b o e)
  have ne0 : ∀ b o, h'.get? b = some o → b ≠ h'.objs.size := fun b o e => Nat.ne_of_lt (Heap.lt_size e)
  generalize hh2 : h'.push { cls := .type "list", data := .seq (as.map Value.ref).toArray } = h2 at hob kb ⊢
  have ka : ∀ b o, h'.get? b = some o → h2.get? b = some o := fun b o e => by rw [← hh2]; exact Heap.get?_push_of_some _ e
  have pin : ∀ (j : Nat) (b : Addr), as[j]? = some b → ∃ e : Int × Str, ks[j]? = some e ∧ PairZ (TS.midHeap h2 h'.objs.size (as.map Value.ref)) (.ref b) e.1 e.2 := by
    intro j b hj
    obtain ⟨e, t, u, he, hg⟩ := pr j b hj
    exact ⟨e, he, b, t, u, rfl, ⟨_, TS.midHeap_old (ne0 _ _ hg) (ka _ _ hg), rfl, 0, rfl⟩⟩
  have tx : ∀ (j : Nat) (b : Addr) (e : Int × Str), as[j]? = some b → ks[j]? = some e → keyZ (TS.midHeap h2 h'.objs.size (as.map Value.ref)) (.ref b) = e.1 := by
    intro j b e hj he
    obtain ⟨e', he', hp'⟩ := pin j b hj
    have ee : e' = e := Option.some.inj (he'.symm.trans he)
    rw [← ee]
    exact hp'.key
  have at_ : ∀ v ∈ as.map Value.ref, ∃ (j : Nat) (b : Addr) (e : Int × Str), v = .ref b ∧ as[j]? = some b ∧ ks[j]? = some e := by
    intro v hv'
    obtain ⟨b, hb, rfl⟩ := List.mem_map.mp hv'
    obtain ⟨j, hj⟩ := List.mem_iff_getElem?.mp hb
    obtain ⟨e, _, _, he, _⟩ := pr j b hj
    exact ⟨j, b, e, rfl, hj, he⟩
  refine wpAny_call_entry PyProof.Rows.slot_list_sort ⟨_, hob, rfl⟩ PyProof.Rows.entry_list_sort
    (SK.plain_sort (s := { s with heap := h2, toks := tk }) (r := fun v => keyZ (TS.midHeap h2 h'.objs.size (as.map Value.ref)) v) hob (by rw [List.length_map]; omega) (fun h2' Qk hQk => ?_) fun ps out o1 o2 o3 => ⟨.none, rfl, ?_⟩) (PyProof.Rows.args_list_sort _)
  · refine kind_zs (s := { s with heap := TS.midHeap h2 h'.objs.size (as.map Value.ref), toks := tk }) (M := fun i => ((ks.find? fun p => decide (p.1 = i)).map (fun q : Int × Str => q.2)).getD ("" : Str)) h2' (fun v hv' => ?_) Qk hQk
    obtain ⟨j, b, e, rfl, hj, he⟩ := at_ v hv'
    obtain ⟨e', he', hp'⟩ := pin j b hj
    refine ⟨e'.1, ?_⟩
    rw [find_nodup hnod (List.mem_of_getElem? he')]
    exact hp'
  · show EP X pins σ Q (.ref h'.objs.size) { s with heap := sortedHeap h2 h'.objs.size (as.map Value.ref) out, toks := tk }
    obtain ⟨zs, pz, ez⟩ := perm_lift (fun z : Addr × Int × Str => (Value.ref z.1, Value.ref z.1)) o2 (as.zip ks) (L2.DX.zip_self Value.ref as ks lak)
    have idx : ∀ z ∈ zs, ∃ j : Nat, as[j]? = some z.1 ∧ ks[j]? = some z.2 := by
      intro z' hz'
      obtain ⟨j, hj⟩ := List.mem_iff_getElem?.mp (pz.mem_iff.mp hz')
      exact ⟨j, List.getElem?_zip_eq_some.mp hj⟩
    have hout : out.toList = zs.map fun z => Value.ref z.1 := by
      rw [o1, ← ez, List.map_map]
      all_goals rfl
    have hperm : (zs.map (·.2)).Perm ks := by
      have e := pz.map (·.2)
      have m2 : (as.zip ks).map (·.2) = ks := List.map_snd_zip (by rw [lak]; exact Nat.le_refl _)
      rw [m2] at e
      exact e
    have hsort : (zs.map (·.2)).Pairwise (fun e f => e.1 ≤ f.1) := by
      rw [← ez, List.pairwise_map] at o3
      rw [List.pairwise_map]
      refine List.Pairwise.imp_of_mem (fun {x y} hx hy h => ?_) o3
      obtain ⟨j, j1, j2⟩ := idx x hx
      obtain ⟨i, i1, i2⟩ := idx y hy
      have h' : keyZ (TS.midHeap h2 h'.objs.size (as.map Value.ref)) (.ref x.1) ≤ keyZ (TS.midHeap h2 h'.objs.size (as.map Value.ref)) (.ref y.1) := h
      rw [tx j _ _ j1 j2, tx i _ _ i1 i2] at h'
      exact h'
    -- behind the sort
    have kF : ∀ b o, b ≠ h'.objs.size → h2.get? b = some o → (sortedHeap h2 h'.objs.size (as.map Value.ref) out).get? b = some o := fun b o hb e => (PyProof.Rows.sortedHeap_old hb (Heap.lt_size e)).trans e
    have kS : ∀ b o, s.heap.get? b = some o → (sortedHeap h2 h'.objs.size (as.map Value.ref) out).get? b = some o := fun b o e => kF b o (ne0 _ _ (hk b o e)) (kb b o e)
    obtain ⟨eF, heF⟩ := PyProof.Rows.sortedHeap_at (vs := as.map Value.ref) (out := out) hob
    have I1 : Inv X pins σ H { s with heap := sortedHeap h2 h'.objs.size (as.map Value.ref) out, toks := tk } := I.kept (t' := tk) kS
    have hn0 : H h'.objs.size = none := I.hok.fresh (Nat.le_of_lt hlt)
    have hlen : (zs.map fun z => V.ref z.1).length ≤ sizeLine := by
      have e := hperm.length_eq
      rw [List.length_map] at e
      rw [List.length_map, sizeLine_eq]
      omega
    have rv : Vals (zs.map fun z => V.ref z.1) out.toList := by
      rw [hout]
      exact vals_maps (fun z : Addr × Int × Str => V.ref z.1) (fun z => Value.ref z.1) zs fun _ _ => rfl
    have I2 : Inv X pins σ (upd H h'.objs.size (.lst (zs.map fun z => V.ref z.1))) { s with heap := sortedHeap h2 h'.objs.size (as.map Value.ref) out, toks := tk } :=
      I1.take (h' := sortedHeap h2 h'.objs.size (as.map Value.ref) out) (t' := tk) (fun b ob _ e => e) (I.fpOk (Nat.le_of_lt hlt) hn0) ⟨hlen, out.toList, eF, rv, heF⟩
    have newA : ∀ b ∈ as, H b = none := fun b hb => I.hok.fresh (Nat.le_of_lt (hG.above b hb))
    obtain ⟨H2, I3, g, qt⟩ := L2.DX.takeT (P := fun b vs => ∃ (j : Nat) (e : Int × Str), as[j]? = some b ∧ ks[j]? = some e ∧ vs = [.int e.1, .str e.2]) I as _ I2 nd fun b hb => by
      obtain ⟨j, hj⟩ := List.mem_iff_getElem?.mp hb
      obtain ⟨e, t, u, he, hg⟩ := pr j b hj
      have hbl : s.heap.objs.size ≤ b := Nat.le_of_lt (hG.above b hb)
      refine ⟨hbl, ?_, [.int e.1, .str e.2], ⟨j, e, hj, he, rfl⟩, fun H3 => ⟨(by rw [sizeLine_eq]; show 2 ≤ 16777216; omega), [Value.int e.1 t, Value.str e.2 u], .cons ⟨t, rfl⟩ (.cons ⟨u, rfl⟩ .nil), ⟨_, kF _ _ (ne0 _ _ hg) (ka _ _ hg), rfl, 0, rfl⟩⟩⟩
      rw [upd_ne (ne0 _ _ hg)]
      exact I.hok.fresh hbl
    have gr : ∀ b o, H b = some o → H2 b = some o := fun b o e => g b o (by rw [upd_ne (ne_of_none e hn0)]; exact e)
    refine ⟨.ref h'.objs.size, H2, I3, rfl, q hnod H2 h'.objs.size zs gr hn0 (fun z' hz' => ?_) (fun z' hz' => ?_) hperm hsort (g _ _ upd_same) fun z' hz' => ?_⟩
    · obtain ⟨i, i1, i2⟩ := idx z' hz'
      exact newA _ (List.mem_of_getElem? i1)
    · obtain ⟨i, i1, i2⟩ := idx z' hz'
      obtain ⟨e, t, u, he, hg⟩ := pr i _ i1
      exact ne0 _ _ hg
    · obtain ⟨i, i1, i2⟩ := idx z' hz'
      obtain ⟨vs', ⟨j, e, j1, j2, ev⟩, hH⟩ := qt z'.1 (List.mem_of_getElem? i1)
      have eij : i = j := (List.getElem?_inj (List.getElem?_eq_some_iff.mp i1).1 nd).mp (i1.trans j1.symm)
      subst eij
      have ee : e = z'.2 := Option.some.inj (j2.symm.trans i2)
      rw [ev, ee] at hH
      exact hH
/-! #### at the level of the store -/
def txZ : List (Key × D) → Option (List (Int × Str))
  | [] => some []
  | (.inl i, .str z) :: r => (txZ r).map fun l => (i, z) :: l
  | _ => none
theorem txZ_is {K : PySem.W.Frag} {mg : Str → Option Value} {β : List Addr} {H : Hp} : ∀ {xs : List (Key × V)} {kvs : List (Key × D)} {ks : List (Int × Str)}, Pd K mg β H xs kvs → txZ kvs = some ks → xs = ks.map entZ
  | _, [], ks, h, e => by
    cases h
    cases e
    rfl
  | _, (k, d) :: r, ks, h, e => by
    cases h with
    | @cons x _ xr _ h t =>
      obtain ⟨xk, xv⟩ := x
      obtain ⟨h1, h2⟩ := h
      cases k with
      | inr _ => unfold txZ at e; cases e
      | inl i =>
        cases d with
        | str z =>
          unfold txZ at e
          cases q : txZ r with
          | none => rw [q] at e; cases e
          | some l =>
            rw [q] at e
            cases e
            rw [txZ_is t q]
            cases h2
            have h1' : xk = Sum.inl i := h1
            subst h1'
            rfl
        | _ => unfold txZ at e; cases e
def rowsZ (ks : List (Int × Str)) : List D := (isortP ks).map fun p => .tup [.int p.1, .str p.2]
def mSortItems (m : Mx) : Mx := fun ρ S => (m ρ S).bind fun d S1 => match d with
  | .ref n => match S1[n]? with
    | some (.dk kvs) => match txZ kvs with
      | some ks => if ks.length < 64 then .ok (.ref S1.length) (S1 ++ [Ob.lst (rowsZ ks)]) else .stuck
      | none => .stuck
    | _ => .stuck
  | _ => .stuck
theorem vds_rowsZ {K : PySem.W.Frag} {mg : Str → Option Value} {β : List Addr} {H : Hp} : ∀ {ps : List (Addr × Int × Str)}, (∀ z ∈ ps, H z.1 = some (.tup [.int z.2.1, .str z.2.2])) → Vds K mg β H (ps.map fun z => V.ref z.1) ((ps.map (·.2)).map fun p => D.tup [.int p.1, .str p.2])
  | [], _ => .nil
  | z :: ps, h => .cons (.tup (h z (List.mem_cons_self ..)) (.cons (.int _) (.cons (.str _) .nil))) (vds_rowsZ fun y hy => h y (List.mem_cons_of_mem _ hy))
section
variable {X : Cx} {W : WX} {e : Expr} {m : Mx} {pos p apos cpos : Pos}
theorem me_sortItems (hc : X.calm = true) (hm : X.mg "sorted" = none) (h : ME X W e m) (hg : Gl X "sorted" := by rfl) (hbase : attributeBase e "items" X.env (eval e X.env) = eval e X.env := by rfl) (hline : (apos.endLine == cpos.line) = true := by rfl)
    (hs : starEach [.Call (.Attribute e "items" apos) [] [] cpos] X.env = (false, eval (.Call (.Attribute e "items" apos) [] [] cpos) X.env) :: starEach [] X.env := by rfl)
    (hpl : (backTo pos (starEach [] X.env)).any (·.1) = false := by rfl) :
    ME X W (.Call (.Name "sorted" p) [.Call (.Attribute e "items" apos) [] [] cpos] [] pos) (mSortItems m) := by
  refine ⟨PE.weak (pe_callB (cr_sortZ hc) hg hm (by decide +kernel) (pa_cons (pe_bm0 F.plainAttrs_dict F.slot_dict_items F.type_dict_items mt_itemsZ h.pe hbase hline) pa_nil hs) (by decide) (by decide) hs hpl) fun σ H Q ⟨β, S, ρ, rl, en, q⟩ => ?_⟩
  refine ⟨β, S, ρ, rl, en, (Po.bind q).mono fun d β1 S1 H1 x1 r1 q1 v hv => ?_⟩
  cases d with
  | ref n =>
    obtain ⟨a, rfl, h1⟩ := hv.ref_inv
    dsimp only at q1
    cases q2 : S1[n]? with
    | none => rw [q2] at q1; exact q1.elim
    | some ob =>
      rw [q2] at q1
      cases ob with
      | dk kvs =>
        dsimp only at q1
        cases q3 : txZ kvs with
        | none => rw [q3] at q1; exact q1.elim
        | some ks =>
          rw [q3] at q1
          dsimp only at q1
          by_cases hl : ks.length < 64
          · rw [if_pos hl] at q1
            obtain ⟨xs, h2, h3⟩ := r1.at' n a _ h1 q2
            have hxs := txZ_is h3 q3
            subst hxs
            refine ⟨.inr (.inr (.inl ⟨rfl, .inl ⟨_, h2⟩⟩)), a, _, rfl, rfl, h2, fun p0 hp0 => ?_⟩
            have hap : a ≠ p0 := fun z => by rw [z, hp0] at h2; cases h2
            refine ⟨p0, a, ks, rfl, upd_same, by rw [upd_ne hap]; exact h2, hl, fun hnod H' l ps kp hl0 hts hn' hperm hsort hl' hp => ?_⟩
            have kp1 : ∀ b o, H1 b = some o → H' b = some o := fun b o e => kp b o (by rw [upd_ne (fun z => by rw [z, hp0] at e; cases e)]; exact e)
            have es := isortP_only hnod hperm hsort
            obtain ⟨H2, hH2⟩ : ∃ H2 : Hp, H2 = fun b => if b = l then none else H' b := ⟨_, rfl⟩
            have hl1 : H1 l = none := by
              cases e : H1 l with
              | none => rfl
              | some o => rw [upd_ne (fun z => by rw [z, hp0] at e; cases e), e] at hl0; cases hl0
            have k2 : ∀ b o, H1 b = some o → H2 b = some o := fun b o e => by
              have hb : b ≠ l := fun z => by rw [z, hl1] at e; cases e
              rw [hH2]
              show (if b = l then none else H' b) = some o
              rw [if_neg hb]
              exact kp1 b o e
            have l2 : H2 l = none := by rw [hH2]; exact if_pos rfl
            have up : upd H2 l (.lst (ps.map fun z => V.ref z.1)) = H' := by
              funext b
              by_cases hb : b = l
              · subst hb
                rw [upd_same, hl']
              · rw [upd_ne hb, hH2]
                exact if_neg hb
            have x2 : Xt X.K β1 H1 β1 H2 := ⟨⟨[], by simp⟩, fun a xs h => k2 _ _ h, fun a xs h => k2 _ _ h, fun a q h => k2 _ _ h, fun a W cl c h => k2 _ _ h⟩
            have r2 := r1.same x2 k2
            have hp2 : ∀ z ∈ ps, H2 z.1 = some (.tup [.int z.2.1, .str z.2.2]) := fun z hz => by
              rw [hH2]
              show (if z.1 = l then none else H' z.1) = _
              rw [if_neg (hn' z hz)]
              exact hp z hz
            have vv := vds_rowsZ (K := X.K) (mg := X.mg) (β := β1) hp2
            rw [es] at vv
            obtain ⟨xn, rn, vn⟩ := r2.newL vv l2
            rw [up] at xn rn vn
            exact q1 _ _ (x2.trans xn) rn _ vn
          · rw [if_neg hl] at q1
            exact q1.elim
      | _ => exact q1.elim
  | _ => exact q1.elim
end
section
variable {ρ : Env'} {S S1 : Sto} {m : Mx} {n : Nat} {kvs : List (Key × D)} {ks : List (Int × Str)}
theorem sortItems_of (h : m ρ S = .ok (.ref n) S1) (q : S1[n]? = some (.dk kvs)) (q2 : txZ kvs = some ks) (hl : ks.length < 64) : mSortItems m ρ S = .ok (.ref S1.length) (S1 ++ [.lst (rowsZ ks)]) := by
  unfold mSortItems
  rw [h]
  show (match S1[n]? with
    | some (.dk kvs) => match txZ kvs with
      | some ks => if ks.length < 64 then R.ok (D.ref S1.length) (S1 ++ [Ob.lst (rowsZ ks)]) else .stuck
      | none => .stuck
    | _ => .stuck) = _
  rw [q]
  show (match txZ kvs with
      | some ks => if ks.length < 64 then R.ok (D.ref S1.length) (S1 ++ [Ob.lst (rowsZ ks)]) else .stuck
      | none => .stuck) = _
  rw [q2]
  exact if_pos hl
end
end Eng

set_option maxHeartbeats 2000000
/-! The engine, part 51: lists compared with a list without parts. -/
namespace Eng
variable [TabCfg]
open PySem PySem.Spec PyProof.Rows L2
section
variable {X : Cx}
def rEqNil (eq : Bool) : R2 := fun x y H Q => ∃ a b xs, x = .ref a ∧ y = .ref b ∧ Rd H a (.lst xs) ∧ Rd H b (.lst []) ∧ Q (.bl (xs.isEmpty == eq)) H
theorem op_eqNil (hu : X.A.units < cLine) : OpR X (compareOp .Eq) (rEqNil true) := by
  intro pins s σ H x y v u Q I rx ry h
  obtain ⟨a, b, xs, rfl, rfl, ha, hb, q⟩ := h
  cases (show v = Value.ref a from rx)
  cases (show u = Value.ref b from ry)
  obtain ⟨us, r1, p1, _⟩ := I.list (.inl ha)
  obtain ⟨ws, r2, p2, _⟩ := I.list (.inl hb)
  cases r2
  cases xs with
  | nil =>
    cases r1
    exact (PySem.SeqAt.RcAt.lists (e := fun _ => true) p1.isList p2.isList rfl hu (fun j h1 _ => by simp at h1)) _ _ _ _ ⟨.bl true, H, I, rfl, q⟩
  | cons x xs =>
    cases us with
    | nil => cases r1
    | cons w us =>
      exact (PySem.SeqAt.RcAt.lists_lengths p1.isList p2.isList (by simp) hu) _ _ _ _ ⟨.bl false, H, I, rfl, q⟩
theorem op_neNil (hu : X.A.units < cLine) : OpR X (compareOp .NotEq) (rEqNil false) := by
  intro pins s σ H x y v u Q I rx ry h
  obtain ⟨a, b, xs, rfl, rfl, ha, hb, q⟩ := h
  cases (show v = Value.ref a from rx)
  cases (show u = Value.ref b from ry)
  obtain ⟨us, r1, p1, _⟩ := I.list (.inl ha)
  obtain ⟨ws, r2, p2, _⟩ := I.list (.inl hb)
  cases r2
  cases xs with
  | nil =>
    cases r1
    exact (PySem.SeqAt.RcNeAt.lists (e := fun _ => true) p1.isList p2.isList rfl hu (fun j h1 _ => by simp at h1)) _ _ _ _ ⟨.bl false, H, I, rfl, q⟩
  | cons x xs =>
    cases us with
    | nil => cases r1
    | cons w us =>
      exact (PySem.SeqAt.RcNeAt.lists_lengths p1.isList p2.isList (by simp) hu) _ _ _ _ ⟨.bl true, H, I, rfl, q⟩
end
def nlEq (eq : Bool) (g : F2) : F2
  | .ref n, .ref m, S => match S[n]?, S[m]? with
    | some (.lst a), some (.lst []) => some (.bl (a.isEmpty == eq), S)
    | _, _ => g (.ref n) (.ref m) S
  | x, y, S => g x y S
theorem nlEq_nil {eq : Bool} {g : F2} {S : Sto} {n m : Nat} {a : List D} (h1 : S[n]? = some (.lst a)) (h2 : S[m]? = some (.lst [])) : nlEq eq g (.ref n) (.ref m) S = some (.bl (a.isEmpty == eq), S) := by
  unfold nlEq
  dsimp only
  rw [h1, h2]
theorem nlEq_of {eq : Bool} {g : F2} {S : Sto} {x y : D} (h : ¬ ∃ n m a, x = .ref n ∧ y = .ref m ∧ S[n]? = some (.lst a) ∧ S[m]? = some (.lst [])) : nlEq eq g x y S = g x y S := by
  cases x with
  | ref n =>
    cases y with
    | ref m =>
      unfold nlEq
      dsimp only
      cases q : S[n]? with
      | none => rfl
      | some ob =>
        cases ob with
        | lst a =>
          cases q2 : S[m]? with
          | none => rfl
          | some ob2 =>
            cases ob2 with
            | lst c =>
              cases c with
              | nil => exact (h ⟨n, m, a, rfl, rfl, q, q2⟩).elim
              | cons _ _ => rfl
            | _ => rfl
        | _ => rfl
    | _ => rfl
  | _ => rfl
theorem o_nlEq {X : Cx} {eq : Bool} {g : F2} {r0 : R2} (o : Op2 X r0 g) : Op2 X (fun x y H Q => rEqNil eq x y H Q ∨ r0 x y H Q) (nlEq eq g) := by
  intro β H S x y v u d S' Q r hx hy e k
  by_cases h : ∃ n m a, x = .ref n ∧ y = .ref m ∧ S[n]? = some (.lst a) ∧ S[m]? = some (.lst [])
  · obtain ⟨n, m, a, rfl, rfl, h1, h2⟩ := h
    rw [nlEq_nil h1 h2] at e
    cases e
    obtain ⟨p, rfl, g1⟩ := hx.ref_inv
    obtain ⟨p2, rfl, g2⟩ := hy.ref_inv
    obtain ⟨xs, k1, k2⟩ := r.at' n p _ g1 h1
    obtain ⟨ys, k3, k4⟩ := r.at' m p2 _ g2 h2
    cases k4
    refine .inl ⟨p, p2, xs, rfl, rfl, .inl k1, .inl k3, ?_⟩
    have : xs.isEmpty = a.isEmpty := by cases k2 <;> rfl
    rw [this]
    exact k β H _ .refl r (.bl _)
  · rw [nlEq_of h] at e
    exact .inr (o _ _ _ _ _ _ _ _ _ _ r hx hy e k)
theorem op_eqNl {X : Cx} {k : Nat} (hr : Room k X.A) : OpR X (compareOp .Eq) (fun x y H Q => rEqNil true x y H Q ∨ rEqA X x y H Q) := OpR.or (op_eqNil (by have := hr.units; omega)) (op_eqA hr)
theorem op_neNl {X : Cx} {k : Nat} (hr : Room k X.A) : OpR X (compareOp .NotEq) (fun x y H Q => rEqNil false x y H Q ∨ rNeA X x y H Q) := OpR.or (op_neNil (by have := hr.units; omega)) (op_neA hr)
theorem o_eqNl {X : Cx} : Op2 X (fun x y H Q => rEqNil true x y H Q ∨ rEqA X x y H Q) (nlEq true fEq) := o_nlEq o_eq
theorem o_neNl {X : Cx} : Op2 X (fun x y H Q => rEqNil false x y H Q ∨ rNeA X x y H Q) (nlEq false fNe) := o_nlEq o_ne
end Eng

namespace Law
open PySem PySem.Spec PyProof.Rows L2 Eng
/-! ### the text by places -/
def topS (i : Nat) : Stmt := PySem.Challenge.pw_rootstamp_k21_what_is_a_slip.main.body.getD i (.Pass ⟨0, 0, 0, 0⟩)
abbrev s__law_bits : Stmt := topS 16
abbrev s__law_key : Stmt := topS 17
abbrev s__law_mark : Stmt := topS 19
abbrev s__law_steps : Stmt := topS 20
abbrev s__law_place : Stmt := topS 21
abbrev s__law_text : Stmt := topS 18
abbrev s__law_end : Stmt := topS 22
abbrev s__law_at : Stmt := topS 15
abbrev s_start : Stmt := topS 7
abbrev s_is_whole : Stmt := topS 1
abbrev s_is_key : Stmt := topS 5
abbrev s_is_value : Stmt := topS 6
abbrev s_is_leaf_end : Stmt := topS 11
abbrev s_is_stamp : Stmt := topS 2
abbrev s_is_fork_end : Stmt := topS 12
abbrev s_are_steps : Stmt := topS 9
abbrev s_end_depth : Stmt := topS 10
abbrev s_is_slip : Stmt := topS 13
abbrev s__law_deep : Stmt := topS 23
abbrev s__law_bad_leaves : Stmt := topS 25
abbrev s__law_bad_forks : Stmt := topS 26
abbrev s__law_bad_steps : Stmt := topS 24
abbrev s__law_bad : Stmt := topS 27
abbrev s__law_good : Stmt := topS 28
abbrev s_law : Stmt := topS 29
/-! ### the mirrors -/
/-- _law_bits: _law_cell 0 -/
noncomputable def b__law_bits : Ms :=
    sRet (mBin fAdd (mC (.int 1)) (mBin fMod (mBin fDiv (mVar 0) (mC (.int 3))) (mBin fItem (mLst (mCons (mC (.int 60)) (mCons (mC (.int 8)) (mCons (mC (.int 60)) (mNil))))) (mBin fMod (mVar 0) (mC (.int 3))))))
noncomputable def m__law_bits : List D → Sto → R D := mDef 1 b__law_bits
/-- _law_key: _law_bits_here 0, _law_cell 1, _law_others 2, _law_many 3, _law_number 4, _law_flip 5 -/
noncomputable def b__law_key : Ms :=
    sSeq (sAsg 3 (mBin fShl (mC (.int 1)) (mVar 0)))
    (sSeq (sAsg 4 (mBin fDiv (mVar 1) (mC (.int 5))))
    (sSeq (sIf (mTB (mBin fEq (mBin fMod (mVar 1) (mC (.int 5))) (mC (.int 0)))) (sRet (mBin fMod (mVar 4) (mVar 3))) (sSkip))
    (sSeq (sIf (mTB (mBin fEq (mBin fMod (mVar 1) (mC (.int 5))) (mC (.int 1)))) (sRet (mBin fSub (mBin fSub (mVar 3) (mC (.int 1))) (mBin fMod (mVar 4) (mVar 3)))) (sSkip))
    (sSeq (sIf (mAnd (mTB (mBin fEq (mBin fMod (mVar 1) (mC (.int 5))) (mC (.int 2)))) (mTB (mBin fNe (mVar 2) (mLst (mNil))))) (sSeq (sAsg 5 (mBin fMod (mBin fMod (mBin fMulA (mVar 4) (mC (.int 48271))) (mC (.int 65537))) (mVar 0)))
    (sRet (mBin fXor (mBin fItem (mVar 2) (mBin fMod (mVar 4) (mCB fLen (mCons (mVar 2) mNil)))) (mBin fShl (mC (.int 1)) (mVar 5))))) (sSkip))
    (sRet (mBin fMod (mBin fMulA (mVar 4) (mC (.int 1152921504606846883))) (mVar 3)))))))
noncomputable def m__law_key : List D → Sto → R D := mDef 6 b__law_key
/-- _law_mark: _law_number 0 -/
noncomputable def b__law_mark : Ms :=
    sSeq (sAsg 0 (mBin fMod (mBin fMulA (mVar 0) (mC (.int 69621))) (mC (.int 1000003))))
    (sSeq (sIf (mTB (mBin fEq (mBin fMod (mVar 0) (mC (.int 4))) (mC (.int 0)))) (sRet (mBin fAdd (mC (.str "m")) (mCB fStr (mCons (mBin fMod (mVar 0) (mC (.int 50))) mNil)))) (sSkip))
    (sSeq (sIf (mTB (mBin fEq (mBin fMod (mVar 0) (mC (.int 4))) (mC (.int 1)))) (sRet (mBin fMod (mBin fDiv (mVar 0) (mC (.int 4))) (mC (.int 12)))) (sSkip))
    (sSeq (sIf (mTB (mBin fEq (mBin fMod (mVar 0) (mC (.int 4))) (mC (.int 2)))) (sRet (mBin fMulA (mVar 0) (mBin fPow (mC (.int 10)) (mC (.int 30))))) (sSkip))
    (sRet (mBin fSub (mBin fSub (mBin fPow (mC (.int 10)) (mC (.int 60))) (mC (.int 1))) (mVar 0))))))
noncomputable def m__law_mark : List D → Sto → R D := mDef 1 b__law_mark
noncomputable def l1__law_steps : Ms :=
    sIf (mTB (mBin fLt (mBin fMod (mBin fMod (mBin fMulA (mBin fMulA (mVar 3) (mBin fAdd (mVar 5) (mC (.int 3)))) (mC (.int 48271))) (mC (.int 65537))) (mC (.int 4))) (mBin fMod (mVar 0) (mC (.int 4))))) (sExpr (mBM ckL fAppend (mVar 4) (mCons (mTup (mCons (mVar 5) (mCons (mCall m__law_mark (mCons (mBin fAdd (mVar 3) (mBin fMulA (mC (.int 97)) (mVar 5))) (mNil))) (mNil)))) mNil))) (sSkip)
/-- _law_steps: _law_cell 0, _law_low 1, _law_bits_here 2, _law_number 3, _law_found 4, _law_depth 5 -/
noncomputable def b__law_steps : Ms :=
    sSeq (sAsg 3 (mBin fMod (mBin fDiv (mVar 0) (mC (.int 4))) (mC (.int 65537))))
    (sSeq (sAsg 4 (mLst (mNil)))
    (sSeq (sFor (mRange2 (mVar 1) (mVar 2)) (fName 5) l1__law_steps)
    (sRet (mCB fTuple (mCons (mVar 4) mNil)))))
noncomputable def m__law_steps : List D → Sto → R D := mDef 6 b__law_steps
/-- _law_place: _law_steps_here 0, _law_low 1 -/
noncomputable def b__law_place : Ms :=
    sSeq (sIf (mTB (mBin fEq (mVar 0) (mTup (mNil)))) (sRet (mVar 1)) (sSkip))
    (sRet (mBin fAdd (mBin fItem (mBin fItem (mVar 0) (mUn fNeg (mC (.int 1)))) (mC (.int 0))) (mC (.int 1))))
noncomputable def m__law_place : List D → Sto → R D := mDef 2 b__law_place
noncomputable def l1__law_text : Ms :=
    sAsg 3 (mBin fAdd (mVar 3) (mBin fItem (mVar 1) (mBin fMod (mBin fAdd (mBin fDiv (mVar 0) (mC (.int 4))) (mBin fMulA (mVar 4) (mBin fMod (mBin fDiv (mVar 0) (mC (.int 128))) (mC (.int 5))))) (mCB fLen (mCons (mVar 1) mNil)))))
/-- _law_text: _law_cell 0, _law_signs 1, _law_size 2, _law_made 3, _law_k 4 -/
noncomputable def b__law_text : Ms :=
    sSeq (sAsg 1 (mC (.str " !\"#$&'()*+,-./0123456789:;<=>?@ABCDEFGHIJKLMNOPQRSTUVWXYZ[\\]^_`")))
    (sSeq (sAsg 1 (mBin fAdd (mVar 1) (mC (.str "abcdefghijklmnopqrstuvwxyz{|}~"))))
    (sSeq (sAsg 2 (mBin fMod (mVar 0) (mC (.int 4))))
    (sSeq (sIf (mTB (mBin fEq (mBin fMod (mBin fDiv (mVar 0) (mC (.int 4))) (mC (.int 8))) (mC (.int 1)))) (sAsg 2 (mC (.int 60))) (sSkip))
    (sSeq (sIf (mTB (mBin fEq (mBin fMod (mBin fDiv (mVar 0) (mC (.int 4))) (mC (.int 8))) (mC (.int 2)))) (sAsg 2 (mBin fMod (mBin fDiv (mVar 0) (mC (.int 32))) (mC (.int 61)))) (sSkip))
    (sSeq (sAsg 3 (mC (.str "")))
    (sSeq (sFor (mRange1 (mVar 2)) (fName 4) l1__law_text)
    (sRet (mVar 3))))))))
noncomputable def m__law_text : List D → Sto → R D := mDef 5 b__law_text
/-- _law_end: _law_cell 0, _law_bits_here 1, _law_key_here 2, _law_low 3, _law_number 4, _law_free 5, _law_depth 6, _law_own 7, _law_wide 8, _law_rest 9 -/
noncomputable def b__law_end : Ms :=
    sSeq (sAsg 4 (mBin fDiv (mVar 0) (mC (.int 4))))
    (sSeq (sIf (mAnd (mTB (mBin fEq (mBin fMod (mVar 0) (mC (.int 4))) (mC (.int 0)))) (mTB (mBin fEq (mVar 3) (mC (.int 0))))) (sRet (mTup (mCons (mC (.str "bare")) (mNil)))) (sSkip))
    (sSeq (sIf (mAnd (mTB (mBin fEq (mBin fMod (mVar 0) (mC (.int 4))) (mC (.int 1)))) (mTB (mBin fLt (mBin fAdd (mVar 3) (mC (.int 1))) (mVar 1)))) (sSeq (sAsg 6 (mBin fAdd (mBin fAdd (mVar 3) (mC (.int 1))) (mBin fMod (mVar 4) (mBin fSub (mBin fSub (mVar 1) (mC (.int 1))) (mVar 3)))))
    (sSeq (sAsg 7 (mBin fShr (mVar 2) (mBin fSub (mVar 1) (mVar 6))))
    (sSeq (sAsg 8 (mBin fShl (mC (.int 1)) (mBin fSub (mVar 6) (mVar 3))))
    (sSeq (sAsg 9 (mBin fMod (mBin fAdd (mBin fAdd (mBin fMod (mVar 7) (mVar 8)) (mC (.int 1))) (mBin fMod (mBin fMulA (mVar 4) (mC (.int 69621))) (mBin fSub (mVar 8) (mC (.int 1))))) (mVar 8)))
    (sRet (mTup (mCons (mC (.str "fork")) (mCons (mVar 6) (mCons (mBin fAdd (mBin fSub (mVar 7) (mBin fMod (mVar 7) (mVar 8))) (mVar 9)) (mCons (mCall m__law_mark (mCons (mVar 4) (mNil))) (mCons (mCall m__law_mark (mCons (mBin fAdd (mBin fDiv (mVar 4) (mC (.int 7))) (mC (.int 5))) (mNil))) (mNil)))))))))))) (sSkip))
    (sSeq (sAsg 5 (mBin fShl (mC (.int 1)) (mBin fSub (mVar 1) (mVar 3))))
    (sSeq (sIf (mTB (mBin fEq (mBin fMod (mVar 0) (mC (.int 4))) (mC (.int 2)))) (sRet (mTup (mCons (mC (.str "leaf")) (mCons (mVar 2) (mCons (mCall m__law_text (mCons (mVar 4) (mNil))) (mNil)))))) (sSkip))
    (sRet (mTup (mCons (mC (.str "leaf")) (mCons (mBin fAdd (mBin fSub (mVar 2) (mBin fMod (mVar 2) (mVar 5))) (mBin fMod (mBin fMulA (mVar 4) (mC (.int 982451653))) (mVar 5))) (mCons (mCall m__law_text (mCons (mBin fDiv (mVar 4) (mC (.int 3))) (mNil))) (mNil))))))))))
noncomputable def m__law_end : List D → Sto → R D := mDef 10 b__law_end
noncomputable def l1__law_at : Ms :=
    sAsg 2 (mBin fMod (mBin fAdd (mBin fMulA (mVar 2) (mC (.int 31))) (mVar 3)) (mC (.int 1000003)))
/-- _law_at: _law_script 0, _law_k 1, _law_number 2, _law_cell 3 -/
noncomputable def b__law_at : Ms :=
    sSeq (sIf (mTB (mBin fLt (mVar 1) (mCB fLen (mCons (mVar 0) mNil)))) (sRet (mBin fItem (mVar 0) (mVar 1))) (sSkip))
    (sSeq (sAsg 2 (mBin fAdd (mC (.int 17)) (mCB fLen (mCons (mVar 0) mNil))))
    (sSeq (sFor (mIt (mSl (mVar 0) (mO0) (mO1 (mC (.int 5))))) (fName 3) l1__law_at)
    (sSeq (sAsg 2 (mBin fMod (mBin fAdd (mVar 2) (mBin fMulA (mC (.int 7919)) (mVar 1))) (mC (.int 1000003))))
    (sRet (mBin fMod (mBin fMulA (mVar 2) (mVar 2)) (mC (.int 2147483629)))))))
noncomputable def m__law_at : List D → Sto → R D := mDef 4 b__law_at
/-- start: bits 0, key 1, depth 2 -/
noncomputable def b_start : Ms :=
    sRet (mBin fShr (mVar 1) (mBin fSub (mVar 0) (mVar 2)))
noncomputable def m_start : List D → Sto → R D := mDef 3 b_start
/-- is_whole: thing 0 -/
noncomputable def b_is_whole : Ms :=
    sRet (mAndV (mCB fIsi (mCons (mVar 0) (mCons (mC (.ty "int")) mNil))) (mNotV (mCB fIsi (mCons (mVar 0) (mCons (mC (.ty "bool")) mNil)))))
noncomputable def m_is_whole : List D → Sto → R D := mDef 1 b_is_whole
/-- is_key: bits 0, thing 1 -/
noncomputable def b_is_key : Ms :=
    sRet (mAndV (mCall m_is_whole (mCons (mVar 1) (mNil))) (mChain fLe fLt (mC (.int 0)) (mVar 1) (mBin fShl (mC (.int 1)) (mVar 0))))
noncomputable def m_is_key : List D → Sto → R D := mDef 2 b_is_key
/-- is_value: thing 0 -/
noncomputable def b_is_value : Ms :=
    sRet (mAndV (mCB fIsi (mCons (mVar 0) (mCons (mC (.ty "str")) mNil))) (mBin fLe (mCB fLen (mCons (mVar 0) mNil)) (mC (.int 60))))
noncomputable def m_is_value : List D → Sto → R D := mDef 1 b_is_value
/-- is_leaf_end: bits 0, key 1, depth 2, thing 3 -/
noncomputable def b_is_leaf_end : Ms :=
    sSeq (sIf (mOr (mTB (mBin fNe (mCB fLen (mCons (mVar 3) mNil)) (mC (.int 3)))) (mOr (mNot (mTru (mCall m_is_key (mCons (mVar 0) (mCons (mBin fItem (mVar 3) (mC (.int 1))) (mNil)))))) (mNot (mTru (mCall m_is_value (mCons (mBin fItem (mVar 3) (mC (.int 2))) (mNil))))))) (sRet (mC (.bl false))) (sSkip))
    (sRet (mBin fEq (mCall m_start (mCons (mVar 0) (mCons (mBin fItem (mVar 3) (mC (.int 1))) (mCons (mVar 2) (mNil))))) (mCall m_start (mCons (mVar 0) (mCons (mVar 1) (mCons (mVar 2) (mNil)))))))
noncomputable def m_is_leaf_end : List D → Sto → R D := mDef 4 b_is_leaf_end
/-- is_stamp: thing 0 -/
noncomputable def b_is_stamp : Ms :=
    sSeq (sIf (mTru (mCB fIsi (mCons (mVar 0) (mCons (mC (.ty "str")) mNil)))) (sRet (mC (.bl true))) (sSkip))
    (sRet (mAndV (mCall m_is_whole (mCons (mVar 0) (mNil))) (mChain fLe fLt (mC (.int 0)) (mVar 0) (mBin fPow (mC (.int 10)) (mC (.int 60))))))
noncomputable def m_is_stamp : List D → Sto → R D := mDef 1 b_is_stamp
/-- is_fork_end: bits 0, key 1, depth 2, thing 3, further 4, begin 5 -/
noncomputable def b_is_fork_end : Ms :=
    sSeq (sIf (mOr (mTB (mBin fNe (mCB fLen (mCons (mVar 3) mNil)) (mC (.int 5)))) (mOr (mNot (mTru (mCall m_is_whole (mCons (mBin fItem (mVar 3) (mC (.int 1))) (mNil))))) (mNot (mTru (mCall m_is_whole (mCons (mBin fItem (mVar 3) (mC (.int 2))) (mNil))))))) (sRet (mC (.bl false))) (sSkip))
    (sSeq (sAsg 4 (mBin fItem (mVar 3) (mC (.int 1))))
    (sSeq (sAsg 5 (mBin fItem (mVar 3) (mC (.int 2))))
    (sSeq (sIf (mOr (mNot (mTB (mChain fLt fLt (mVar 2) (mVar 4) (mVar 0)))) (mNot (mTB (mChain fLe fLt (mC (.int 0)) (mVar 5) (mBin fShl (mC (.int 1)) (mVar 4)))))) (sRet (mC (.bl false))) (sSkip))
    (sSeq (sIf (mOr (mNot (mTru (mCall m_is_stamp (mCons (mBin fItem (mVar 3) (mC (.int 3))) (mNil))))) (mNot (mTru (mCall m_is_stamp (mCons (mBin fItem (mVar 3) (mC (.int 4))) (mNil)))))) (sRet (mC (.bl false))) (sSkip))
    (sSeq (sIf (mTB (mBin fNe (mBin fShr (mVar 5) (mBin fSub (mVar 4) (mVar 2))) (mCall m_start (mCons (mVar 0) (mCons (mVar 1) (mCons (mVar 2) (mNil))))))) (sRet (mC (.bl false))) (sSkip))
    (sRet (mBin fNe (mVar 5) (mCall m_start (mCons (mVar 0) (mCons (mVar 1) (mCons (mVar 4) (mNil))))))))))))
noncomputable def m_is_fork_end : List D → Sto → R D := mDef 6 b_is_fork_end
noncomputable def l1_are_steps : Ms :=
    sSeq (sIf (mOr (mNot (mTru (mCB fIsi (mCons (mVar 3) (mCons (mC (.ty "tuple")) mNil))))) (mTB (mBin fNe (mCB fLen (mCons (mVar 3) mNil)) (mC (.int 2))))) (sRet (mC (.bl false))) (sSkip))
    (sSeq (sAsgT (mVar 3) (fNames [4, 5]))
    (sSeq (sIf (mOr (mNot (mTru (mCall m_is_whole (mCons (mVar 4) (mNil))))) (mOr (mNot (mTB (mChain fLt fLt (mVar 2) (mVar 4) (mVar 0)))) (mNot (mTru (mCall m_is_stamp (mCons (mVar 5) (mNil))))))) (sRet (mC (.bl false))) (sSkip))
    (sAsg 2 (mVar 4))))
/-- are_steps: bits 0, thing 1, last 2, step 3, depth 4, mark 5 -/
noncomputable def b_are_steps : Ms :=
    sSeq (sIf (mNot (mTru (mCB fIsi (mCons (mVar 1) (mCons (mC (.ty "tuple")) mNil))))) (sRet (mC (.bl false))) (sSkip))
    (sSeq (sAsg 2 (mUn fNeg (mC (.int 1))))
    (sSeq (sFor (mIt (mVar 1)) (fName 3) l1_are_steps)
    (sRet (mC (.bl true)))))
noncomputable def m_are_steps : List D → Sto → R D := mDef 6 b_are_steps
/-- end_depth: steps 0 -/
noncomputable def b_end_depth : Ms :=
    sSeq (sIf (mTB (mBin fEq (mVar 0) (mTup (mNil)))) (sRet (mC (.int 0))) (sSkip))
    (sRet (mBin fAdd (mBin fItem (mBin fItem (mVar 0) (mUn fNeg (mC (.int 1)))) (mC (.int 0))) (mC (.int 1))))
noncomputable def m_end_depth : List D → Sto → R D := mDef 1 b_end_depth
/-- is_slip: bits 0, key 1, thing 2, steps 3, end 4 -/
noncomputable def b_is_slip : Ms :=
    sSeq (sIf (mOr (mNot (mTru (mCB fIsi (mCons (mVar 2) (mCons (mC (.ty "tuple")) mNil))))) (mTB (mBin fNe (mCB fLen (mCons (mVar 2) mNil)) (mC (.int 2))))) (sRet (mC (.bl false))) (sSkip))
    (sSeq (sAsgT (mVar 2) (fNames [3, 4]))
    (sSeq (sIf (mOr (mNot (mTru (mCall m_are_steps (mCons (mVar 0) (mCons (mVar 3) (mNil)))))) (mOr (mNot (mTru (mCB fIsi (mCons (mVar 4) (mCons (mC (.ty "tuple")) mNil))))) (mTB (mBin fEq (mVar 4) (mTup (mNil)))))) (sRet (mC (.bl false))) (sSkip))
    (sSeq (sIf (mTB (mBin fEq (mBin fItem (mVar 4) (mC (.int 0))) (mC (.str "leaf")))) (sRet (mCall m_is_leaf_end (mCons (mVar 0) (mCons (mVar 1) (mCons (mCall m_end_depth (mCons (mVar 3) (mNil))) (mCons (mVar 4) (mNil))))))) (sSkip))
    (sSeq (sIf (mTB (mBin fEq (mBin fItem (mVar 4) (mC (.int 0))) (mC (.str "fork")))) (sRet (mCall m_is_fork_end (mCons (mVar 0) (mCons (mVar 1) (mCons (mCall m_end_depth (mCons (mVar 3) (mNil))) (mCons (mVar 4) (mNil))))))) (sSkip))
    (sRet (mAndV (mBin fEq (mVar 3) (mTup (mNil))) (mBin fEq (mVar 4) (mTup (mCons (mC (.str "bare")) (mNil))))))))))
noncomputable def m_is_slip : List D → Sto → R D := mDef 5 b_is_slip
noncomputable def l1__law_deep : Ms :=
    sAsg 0 (mLst (mCons (mVar 0) (mNil)))
/-- _law_deep: _law_thing 0, _law_k 1 -/
noncomputable def b__law_deep : Ms :=
    sSeq (sFor (mRange1 (mC (.int 60))) (fName 1) l1__law_deep)
    (sRet (mVar 0))
noncomputable def m__law_deep : List D → Sto → R D := mDef 2 b__law_deep
/-- _law_bad_leaves: _law_bits_here 0, _law_key_here 1, _law_low 2, _law_number 3, _law_some 4, _law_flip 5 -/
noncomputable def b__law_bad_leaves : Ms :=
    sSeq (sAsg 4 (mLst (mCons (mTup (mCons (mC (.str "leaf")) (mCons (mVar 1) (mNil)))) (mCons (mTup (mCons (mC (.str "leaf")) (mCons (mVar 1) (mCons (mC (.str "a")) (mCons (mC (.str "a")) (mNil)))))) (mCons (mLst (mCons (mC (.str "leaf")) (mCons (mVar 1) (mCons (mC (.str "a")) (mNil))))) (mCons (mTup (mCons (mC (.str "Leaf")) (mCons (mVar 1) (mCons (mC (.str "a")) (mNil))))) (mCons (mTup (mCons (mC (.str "cut")) (mCons (mC (.int 7)) (mNil)))) (mCons (mTup (mNil)) (mNil)))))))))
    (sSeq (sAsg 4 (mBin fAdd (mVar 4) (mLst (mCons (mTup (mCons (mC (.str "bare")) (mCons (mC (.int 0)) (mNil)))) (mCons (mC .non) (mCons (mC (.str "bare")) (mCons (mTup (mCons (mC (.str "leaf")) (mCons (mUn fNeg (mC (.int 1))) (mCons (mC (.str "a")) (mNil))))) (mCons (mTup (mCons (mC (.str "leaf")) (mCons (mBin fShl (mC (.int 1)) (mVar 0)) (mCons (mC (.str "a")) (mNil))))) (mCons (mTup (mCons (mC (.str "leaf")) (mCons (mC (.bl true)) (mCons (mC (.str "a")) (mNil))))) (mNil))))))))))
    (sSeq (sAsg 4 (mBin fAdd (mVar 4) (mLst (mCons (mTup (mCons (mC (.str "leaf")) (mCons (mC .non) (mCons (mC (.str "")) (mNil))))) (mCons (mTup (mCons (mC (.str "leaf")) (mCons (mC (.str "5")) (mCons (mC (.str "")) (mNil))))) (mCons (mTup (mCons (mC (.str "leaf")) (mCons (mVar 1) (mCons (mBin fMulA (mC (.str "a")) (mC (.int 61))) (mNil))))) (mCons (mTup (mCons (mC (.str "leaf")) (mCons (mVar 1) (mCons (mC .non) (mNil))))) (mNil))))))))
    (sSeq (sAsg 4 (mBin fAdd (mVar 4) (mLst (mCons (mTup (mCons (mC (.str "leaf")) (mCons (mVar 1) (mCons (mC (.int 7)) (mNil))))) (mCons (mTup (mCons (mC (.str "leaf")) (mCons (mVar 1) (mCons (mLst (mCons (mC (.str "a")) (mNil))) (mNil))))) (mCons (mLst (mCons (mC (.str "bare")) (mNil))) (mCons (mDk) (mCons (mTup (mCons (mC (.str "")) (mNil))) (mCons (mTup (mCons (mC .non) (mCons (mVar 1) (mCons (mC (.str "a")) (mNil))))) (mCons (mTup (mCons (mC (.str "bar")) (mNil))) (mNil)))))))))))
    (sSeq (sAsg 4 (mBin fAdd (mVar 4) (mLst (mCons (mTup (mCons (mC (.str "leaf")) (mCons (mBin fAdd (mVar 1) (mBin fShl (mC (.int 1)) (mVar 0))) (mCons (mC (.str "")) (mNil))))) (mCons (mTup (mCons (mC (.str "leaf")) (mCons (mVar 1) (mCons (mTup (mCons (mC (.str "a")) (mNil))) (mNil))))) (mCons (mTup (mCons (mTup (mCons (mC (.str "bare")) (mNil))) (mNil))) (mCons (mTup (mCons (mC (.str "leaf")) (mCons (mCall m__law_deep (mCons (mVar 1) (mNil))) (mCons (mC (.str "")) (mNil))))) (mNil))))))))
    (sSeq (sAsg 4 (mBin fAdd (mVar 4) (mLst (mCons (mTup (mCons (mC (.str "leaf")) (mCons (mBin fGt (mVar 1) (mC (.int 0))) (mCons (mC (.str "a")) (mNil))))) (mCons (mTup (mCons (mC (.str "leaf")) (mCons (mBin fMulA (mBin fPow (mC (.int 10)) (mC (.int 45))) (mBin fPow (mC (.int 10)) (mC (.int 45)))) (mCons (mC (.str "")) (mNil))))) (mCons (mTup (mCons (mC (.str "leaf")) (mCons (mUn fNeg (mBin fPow (mC (.int 10)) (mC (.int 45)))) (mCons (mC (.str "")) (mNil))))) (mNil)))))))
    (sSeq (sIf (mTB (mBin fGt (mVar 2) (mC (.int 0)))) (sSeq (sAsg 5 (mBin fShl (mC (.int 1)) (mBin fSub (mBin fSub (mVar 0) (mC (.int 1))) (mBin fMod (mVar 3) (mVar 2)))))
    (sAsg 4 (mBin fAdd (mVar 4) (mLst (mCons (mTup (mCons (mC (.str "bare")) (mNil))) (mCons (mTup (mCons (mC (.str "leaf")) (mCons (mBin fXor (mVar 1) (mVar 5)) (mCons (mC (.str "a")) (mNil))))) (mCons (mTup (mCons (mC (.str "leaf")) (mCons (mBin fXor (mVar 1) (mVar 5)) (mCons (mC (.str "")) (mNil))))) (mNil)))))))) (sSkip))
    (sRet (mVar 4))))))))
noncomputable def m__law_bad_leaves : List D → Sto → R D := mDef 6 b__law_bad_leaves
/-- _law_bad_forks: _law_bits_here 0, _law_key_here 1, _law_low 2, _law_number 3, _law_top 4, _law_some 5, _law_far 6, _law_deep_here 7, _law_depth 8, _law_own 9, _law_good_here 10, _law_flip 11 -/
noncomputable def b__law_bad_forks : Ms :=
    sSeq (sAsg 4 (mBin fShr (mVar 1) (mBin fSub (mVar 0) (mVar 2))))
    (sSeq (sAsg 5 (mLst (mCons (mTup (mCons (mC (.str "fork")) (mCons (mVar 2) (mCons (mVar 4) (mCons (mC (.int 1)) (mCons (mC (.int 2)) (mNil))))))) (mCons (mTup (mCons (mC (.str "fork")) (mCons (mVar 2) (mCons (mBin fXor (mVar 4) (mC (.int 1))) (mCons (mC (.int 1)) (mCons (mC (.int 2)) (mNil))))))) (mCons (mTup (mCons (mC (.str "fork")) (mCons (mVar 0) (mCons (mBin fXor (mVar 1) (mC (.int 1))) (mCons (mC (.int 1)) (mCons (mC (.int 2)) (mNil))))))) (mNil))))))
    (sSeq (sAsg 5 (mBin fAdd (mVar 5) (mLst (mCons (mTup (mCons (mC (.str "fork")) (mCons (mC (.bl true)) (mCons (mC (.int 0)) (mCons (mC (.int 1)) (mCons (mC (.int 2)) (mNil))))))) (mCons (mTup (mCons (mC (.str "fork")) (mCons (mUn fNeg (mC (.int 1))) (mCons (mC (.int 0)) (mCons (mC (.int 1)) (mCons (mC (.int 2)) (mNil))))))) (mCons (mTup (mCons (mC (.str "fork")) (mNil))) (mCons (mTup (mCons (mC (.str "fork")) (mCons (mC .non) (mCons (mC (.int 0)) (mCons (mC (.int 1)) (mCons (mC (.int 2)) (mNil))))))) (mNil))))))))
    (sSeq (sAsg 6 (mBin fMulA (mBin fPow (mC (.int 10)) (mC (.int 45))) (mBin fPow (mC (.int 10)) (mC (.int 45)))))
    (sSeq (sAsg 5 (mBin fAdd (mVar 5) (mLst (mCons (mTup (mCons (mC (.str "fork")) (mCons (mVar 6) (mCons (mVar 4) (mCons (mC (.int 1)) (mCons (mC (.int 2)) (mNil))))))) (mCons (mTup (mCons (mC (.str "fork")) (mCons (mUn fNeg (mVar 6)) (mCons (mVar 4) (mCons (mC (.int 1)) (mCons (mC (.int 2)) (mNil))))))) (mCons (mTup (mCons (mC (.str "fork")) (mCons (mVar 0) (mCons (mVar 6) (mCons (mC (.int 1)) (mCons (mC (.int 2)) (mNil))))))) (mNil)))))))
    (sSeq (sAsg 7 (mBin fAdd (mC (.int 1)) (mBin fMod (mVar 3) (mC (.int 30)))))
    (sSeq (sAsg 5 (mBin fAdd (mVar 5) (mLst (mCons (mTup (mCons (mC (.str "fork")) (mCons (mBin fAdd (mVar 0) (mVar 7)) (mCons (mBin fXor (mBin fShl (mVar 1) (mVar 7)) (mC (.int 1))) (mCons (mC (.int 1)) (mCons (mC (.int 2)) (mNil))))))) (mCons (mTup (mCons (mC (.str "fork")) (mCons (mBin fAdd (mVar 0) (mVar 7)) (mCons (mC (.int 0)) (mCons (mC (.int 1)) (mCons (mC (.int 2)) (mNil))))))) (mNil))))))
    (sSeq (sIf (mTB (mBin fLt (mBin fAdd (mVar 2) (mC (.int 1))) (mVar 0))) (sSeq (sAsg 8 (mBin fAdd (mBin fAdd (mVar 2) (mC (.int 1))) (mBin fMod (mVar 3) (mBin fSub (mBin fSub (mVar 0) (mC (.int 1))) (mVar 2)))))
    (sSeq (sAsg 9 (mBin fShr (mVar 1) (mBin fSub (mVar 0) (mVar 8))))
    (sSeq (sAsg 10 (mBin fXor (mVar 9) (mC (.int 1))))
    (sSeq (sAsg 5 (mBin fAdd (mVar 5) (mLst (mCons (mTup (mCons (mC (.str "fork")) (mCons (mVar 8) (mCons (mBin fGt (mVar 10) (mC (.int 0))) (mCons (mC (.int 1)) (mCons (mC (.int 2)) (mNil))))))) (mCons (mTup (mCons (mC (.str "fork")) (mCons (mVar 8) (mCons (mVar 6) (mCons (mC (.int 1)) (mCons (mC (.int 2)) (mNil))))))) (mCons (mTup (mCons (mC (.str "fork")) (mCons (mVar 8) (mCons (mVar 10) (mCons (mVar 6) (mCons (mC (.int 2)) (mNil))))))) (mNil)))))))
    (sSeq (sAsg 5 (mBin fAdd (mVar 5) (mLst (mCons (mTup (mCons (mC (.str "fork")) (mCons (mVar 8) (mCons (mVar 10) (mCons (mBin fPow (mC (.int 10)) (mC (.int 60))) (mCons (mC (.int 2)) (mNil))))))) (mCons (mTup (mCons (mC (.str "fork")) (mCons (mVar 8) (mCons (mVar 10) (mCons (mC (.bl true)) (mCons (mC (.int 2)) (mNil))))))) (mNil))))))
    (sSeq (sAsg 5 (mBin fAdd (mVar 5) (mLst (mCons (mTup (mCons (mC (.str "fork")) (mCons (mVar 8) (mCons (mVar 10) (mCons (mLst (mCons (mC (.int 1)) (mNil))) (mCons (mC (.int 2)) (mNil))))))) (mNil)))))
    (sSeq (sAsg 5 (mBin fAdd (mVar 5) (mLst (mCons (mTup (mCons (mC (.str "fork")) (mCons (mVar 8) (mCons (mVar 10) (mCons (mC (.int 1)) (mCons (mUn fNeg (mC (.int 1))) (mNil))))))) (mCons (mTup (mCons (mC (.str "fork")) (mCons (mVar 8) (mCons (mVar 10) (mCons (mC (.int 1)) (mCons (mC .non) (mNil))))))) (mCons (mTup (mCons (mC (.str "fork")) (mCons (mVar 8) (mCons (mVar 10) (mCons (mC (.int 1)) (mCons (mTup (mCons (mC (.int 2)) (mNil))) (mNil))))))) (mNil)))))))
    (sSeq (sAsg 5 (mBin fAdd (mVar 5) (mLst (mCons (mTup (mCons (mC (.str "fork")) (mCons (mVar 8) (mCons (mVar 9) (mCons (mC (.int 1)) (mCons (mC (.int 2)) (mNil))))))) (mCons (mTup (mCons (mC (.str "fork")) (mCons (mVar 8) (mCons (mUn fNeg (mC (.int 1))) (mCons (mC (.int 1)) (mCons (mC (.int 2)) (mNil))))))) (mCons (mTup (mCons (mC (.str "fork")) (mCons (mVar 8) (mCons (mVar 10) (mCons (mC (.int 1)) (mNil)))))) (mNil)))))))
    (sSeq (sAsg 5 (mBin fAdd (mVar 5) (mLst (mCons (mTup (mCons (mC (.str "fork")) (mCons (mVar 8) (mCons (mBin fAdd (mVar 10) (mBin fShl (mC (.int 1)) (mVar 8))) (mCons (mC (.int 1)) (mCons (mC (.int 2)) (mNil))))))) (mCons (mTup (mCons (mC (.str "fork")) (mCons (mVar 8) (mCons (mVar 10) (mCons (mC (.int 1)) (mCons (mC (.int 2)) (mCons (mC (.int 3)) (mNil)))))))) (mNil))))))
    (sSeq (sAsg 5 (mBin fAdd (mVar 5) (mLst (mCons (mTup (mCons (mC (.str "fork")) (mCons (mVar 8) (mCons (mVar 10) (mCons (mUn fNeg (mC (.int 1))) (mCons (mC (.int 2)) (mNil))))))) (mCons (mTup (mCons (mC (.str "fork")) (mCons (mVar 8) (mCons (mVar 10) (mCons (mC (.int 1)) (mCons (mBin fPow (mC (.int 10)) (mC (.int 60))) (mNil))))))) (mCons (mLst (mCons (mC (.str "fork")) (mCons (mVar 8) (mCons (mVar 10) (mCons (mC (.int 1)) (mCons (mC (.int 2)) (mNil))))))) (mNil)))))))
    (sSeq (sAsg 5 (mBin fAdd (mVar 5) (mLst (mCons (mTup (mCons (mC (.str "fork")) (mCons (mVar 8) (mCons (mVar 10) (mCons (mC .non) (mCons (mC (.int 2)) (mNil))))))) (mCons (mTup (mCons (mC (.str "fork")) (mCons (mVar 8) (mCons (mVar 10) (mCons (mC (.int 1)) (mCons (mC (.bl true)) (mNil))))))) (mCons (mTup (mCons (mC (.str "fork")) (mCons (mVar 8) (mCons (mC .non) (mCons (mC (.int 1)) (mCons (mC (.int 2)) (mNil))))))) (mNil)))))))
    (sSeq (sAsg 5 (mBin fAdd (mVar 5) (mLst (mCons (mTup (mCons (mC (.str "fork")) (mCons (mVar 8) (mCons (mC (.str "1")) (mCons (mC (.int 1)) (mCons (mC (.int 2)) (mNil))))))) (mCons (mTup (mCons (mC (.str "fork")) (mCons (mCB fStr (mCons (mVar 8) mNil)) (mCons (mVar 10) (mCons (mC (.int 1)) (mCons (mC (.int 2)) (mNil))))))) (mCons (mTup (mCons (mC (.str "Fork")) (mCons (mVar 8) (mCons (mVar 10) (mCons (mC (.int 1)) (mCons (mC (.int 2)) (mNil))))))) (mNil)))))))
    (sIf (mTB (mBin fGt (mVar 2) (mC (.int 0)))) (sSeq (sAsg 11 (mBin fShl (mC (.int 1)) (mBin fSub (mBin fSub (mVar 8) (mC (.int 1))) (mBin fMod (mVar 3) (mVar 2)))))
    (sAsg 5 (mBin fAdd (mVar 5) (mLst (mCons (mTup (mCons (mC (.str "fork")) (mCons (mVar 8) (mCons (mBin fXor (mVar 10) (mVar 11)) (mCons (mC (.int 1)) (mCons (mC (.int 2)) (mNil))))))) (mCons (mTup (mCons (mC (.str "fork")) (mCons (mVar 8) (mCons (mBin fXor (mVar 10) (mVar 11)) (mCons (mC (.str "a")) (mCons (mC (.str "b")) (mNil))))))) (mNil))))))) (sSkip)))))))))))))) (sSkip))
    (sRet (mVar 5)))))))))
noncomputable def m__law_bad_forks : List D → Sto → R D := mDef 12 b__law_bad_forks
/-- _law_bad_steps: _law_cell 0, _law_steps_here 1, _law_bits_here 2, _law_at_here 3, _law_some 4, _law_far 5, _law_changed 6, _law_depth 7, _law_mark_here 8 -/
noncomputable def b__law_bad_steps : Ms :=
    sSeq (sAsg 3 (mBin fMod (mBin fDiv (mVar 0) (mC (.int 11))) (mCB fLen (mCons (mVar 1) mNil))))
    (sSeq (sAsgT (mBin fItem (mVar 1) (mVar 3)) (fNames [7, 8]))
    (sSeq (sAsg 4 (mLst (mCons (mTup (mCons (mVar 7) (mNil))) (mCons (mTup (mCons (mVar 7) (mCons (mVar 8) (mCons (mVar 8) (mNil))))) (mCons (mLst (mCons (mVar 7) (mCons (mVar 8) (mNil)))) (mCons (mVar 7) (mCons (mC .non) (mCons (mTup (mCons (mUn fNeg (mC (.int 1))) (mCons (mVar 8) (mNil)))) (mCons (mTup (mCons (mVar 2) (mCons (mVar 8) (mNil)))) (mNil))))))))))
    (sSeq (sAsg 4 (mBin fAdd (mVar 4) (mLst (mCons (mTup (mCons (mC (.bl true)) (mCons (mVar 8) (mNil)))) (mCons (mTup (mCons (mC .non) (mCons (mVar 8) (mNil)))) (mCons (mTup (mCons (mC (.str "0")) (mCons (mVar 8) (mNil)))) (mCons (mTup (mCons (mBin fAdd (mVar 2) (mVar 7)) (mCons (mVar 8) (mNil)))) (mCons (mTup (mCons (mVar 7) (mCons (mUn fNeg (mC (.int 1))) (mNil)))) (mNil)))))))))
    (sSeq (sAsg 4 (mBin fAdd (mVar 4) (mLst (mCons (mTup (mCons (mVar 7) (mCons (mBin fPow (mC (.int 10)) (mC (.int 60))) (mNil)))) (mCons (mTup (mCons (mVar 7) (mCons (mC .non) (mNil)))) (mCons (mTup (mCons (mVar 7) (mCons (mC (.bl true)) (mNil)))) (mCons (mTup (mCons (mVar 7) (mCons (mLst (mCons (mVar 8) (mNil))) (mNil)))) (mCons (mTup (mCons (mVar 7) (mCons (mTup (mCons (mVar 8) (mNil))) (mNil)))) (mNil)))))))))
    (sSeq (sAsg 4 (mBin fAdd (mVar 4) (mLst (mCons (mTup (mCons (mVar 7) (mCons (mCall m__law_deep (mCons (mVar 8) (mNil))) (mNil)))) (mCons (mCall m__law_deep (mCons (mVar 7) (mNil))) (mCons (mTup (mCons (mVar 7) (mCons (mDk) (mNil)))) (mCons (mTup (mCons (mC (.bl false)) (mCons (mVar 8) (mNil)))) (mNil))))))))
    (sSeq (sAsg 5 (mBin fMulA (mBin fPow (mC (.int 10)) (mC (.int 45))) (mBin fPow (mC (.int 10)) (mC (.int 45)))))
    (sSeq (sAsg 4 (mBin fAdd (mVar 4) (mLst (mCons (mTup (mCons (mVar 5) (mCons (mVar 8) (mNil)))) (mCons (mTup (mCons (mUn fNeg (mVar 5)) (mCons (mVar 8) (mNil)))) (mCons (mTup (mCons (mVar 7) (mCons (mVar 5) (mNil)))) (mCons (mTup (mCons (mVar 7) (mCons (mUn fNeg (mVar 5)) (mNil)))) (mCons (mTup (mCons (mVar 7) (mCons (mC (.bl false)) (mNil)))) (mCons (mTup (mCons (mBin fGt (mVar 7) (mC (.int 0))) (mCons (mVar 8) (mNil)))) (mNil))))))))))
    (sSeq (sAsg 6 (mCB fList (mCons (mVar 1) mNil)))
    (sSeq (sIf (mTB (mBin fEq (mBin fMod (mVar 0) (mC (.int 11))) (mC (.int 0)))) (sExpr (mBM ckL fInsert (mVar 6) (mCons (mVar 3) (mCons (mBin fItem (mVar 1) (mVar 3)) mNil)))) (sIf (mAnd (mTB (mBin fEq (mBin fMod (mVar 0) (mC (.int 11))) (mC (.int 1)))) (mTB (mBin fGt (mCB fLen (mCons (mVar 1) mNil)) (mC (.int 1))))) (sExpr (mBM ckL fRevl (mVar 6) mNil)) (sIf (mAnd (mTB (mBin fEq (mBin fMod (mVar 0) (mC (.int 11))) (mC (.int 2)))) (mTB (mBin fLt (mBin fAdd (mVar 3) (mC (.int 1))) (mCB fLen (mCons (mVar 1) mNil))))) (sSeq (sPut (mVar 6) (mVar 3) (mBin fItem (mVar 1) (mBin fAdd (mVar 3) (mC (.int 1)))))
    (sPut (mVar 6) (mBin fAdd (mVar 3) (mC (.int 1))) (mBin fItem (mVar 1) (mVar 3)))) (sIf (mAnd (mTB (mBin fEq (mBin fMod (mVar 0) (mC (.int 11))) (mC (.int 3)))) (mTB (mBin fGt (mVar 3) (mC (.int 0))))) (sPut (mVar 6) (mVar 3) (mTup (mCons (mBin fItem (mBin fItem (mVar 1) (mBin fSub (mVar 3) (mC (.int 1)))) (mC (.int 0))) (mCons (mVar 8) (mNil))))) (sPut (mVar 6) (mVar 3) (mBin fItem (mVar 4) (mBin fMod (mBin fDiv (mVar 0) (mC (.int 77))) (mCB fLen (mCons (mVar 4) mNil)))))))))
    (sRet (mCB fTuple (mCons (mVar 6) mNil))))))))))))
noncomputable def m__law_bad_steps : List D → Sto → R D := mDef 9 b__law_bad_steps
/-- _law_bad: _law_cell 0, _law_bits_here 1, _law_key_here 2, _law_steps_here 3, _law_end_here 4, _law_low 5, _law_number 6, _law_some 7 -/
noncomputable def b__law_bad : Ms :=
    sSeq (sAsg 6 (mBin fDiv (mVar 0) (mC (.int 4))))
    (sSeq (sIf (mAnd (mTB (mBin fEq (mBin fMod (mVar 0) (mC (.int 4))) (mC (.int 0)))) (mTB (mBin fNe (mVar 3) (mTup (mNil))))) (sRet (mTup (mCons (mCall m__law_bad_steps (mCons (mVar 6) (mCons (mVar 3) (mCons (mVar 1) (mNil))))) (mCons (mVar 4) (mNil))))) (sSkip))
    (sSeq (sIf (mTB (mBin fEq (mBin fMod (mVar 0) (mC (.int 4))) (mC (.int 1)))) (sSeq (sAsg 7 (mCall m__law_bad_leaves (mCons (mVar 1) (mCons (mVar 2) (mCons (mVar 5) (mCons (mBin fDiv (mVar 6) (mC (.int 64))) (mNil)))))))
    (sRet (mTup (mCons (mVar 3) (mCons (mBin fItem (mVar 7) (mBin fMod (mVar 6) (mCB fLen (mCons (mVar 7) mNil)))) (mNil)))))) (sSkip))
    (sSeq (sIf (mTB (mBin fEq (mBin fMod (mVar 0) (mC (.int 4))) (mC (.int 2)))) (sSeq (sAsg 7 (mCall m__law_bad_forks (mCons (mVar 1) (mCons (mVar 2) (mCons (mVar 5) (mCons (mBin fDiv (mVar 6) (mC (.int 64))) (mNil)))))))
    (sRet (mTup (mCons (mVar 3) (mCons (mBin fItem (mVar 7) (mBin fMod (mVar 6) (mCB fLen (mCons (mVar 7) mNil)))) (mNil)))))) (sSkip))
    (sSeq (sAsg 7 (mLst (mCons (mLst (mCons (mVar 3) (mCons (mVar 4) (mNil)))) (mCons (mTup (mCons (mVar 3) (mNil))) (mCons (mTup (mCons (mVar 3) (mCons (mVar 4) (mCons (mVar 4) (mNil))))) (mCons (mTup (mCons (mCB fList (mCons (mVar 3) mNil)) (mCons (mVar 4) (mNil)))) (mCons (mTup (mCons (mVar 3) (mCons (mCB fList (mCons (mVar 4) mNil)) (mNil)))) (mCons (mC .non) (mCons (mC (.str "")) (mCons (mC (.int 0)) (mCons (mC (.bl true)) (mNil))))))))))))
    (sSeq (sAsg 7 (mBin fAdd (mVar 7) (mLst (mCons (mTup (mNil)) (mCons (mLst (mNil)) (mCons (mDk) (mCons (mTup (mCons (mC (.str "bare")) (mNil))) (mCons (mVar 2) (mCons (mC (.str "leaf")) (mCons (mTup (mCons (mVar 4) (mCons (mVar 3) (mNil)))) (mCons (mVar 3) (mCons (mVar 4) (mCons (mTup (mCons (mC .non) (mCons (mVar 4) (mNil)))) (mCons (mTup (mCons (mVar 3) (mCons (mC .non) (mNil)))) (mNil)))))))))))))))
    (sSeq (sAsg 7 (mBin fAdd (mVar 7) (mLst (mCons (mTup (mCons (mVar 3) (mCons (mTup (mCons (mVar 4) (mNil))) (mNil)))) (mCons (mTup (mCons (mTup (mCons (mVar 3) (mNil))) (mCons (mVar 4) (mNil)))) (mCons (mCall m__law_deep (mCons (mVar 4) (mNil))) (mCons (mTup (mCons (mC (.str "")) (mCons (mVar 4) (mNil)))) (mCons (mTup (mCons (mDk) (mCons (mVar 4) (mNil)))) (mNil)))))))))
    (sRet (mBin fItem (mVar 7) (mBin fMod (mVar 6) (mCB fLen (mCons (mVar 7) mNil)))))))))))
noncomputable def m__law_bad : List D → Sto → R D := mDef 8 b__law_bad
/-- _law_good: _law_bits_here 0, _law_key_here 1, _law_steps_here 2, _law_low 3, _law_number 4, _law_some 5, _law_depth 6 -/
noncomputable def b__law_good : Ms :=
    sSeq (sAsg 5 (mLst (mCons (mTup (mCons (mC (.str "leaf")) (mCons (mVar 1) (mCons (mC (.str "")) (mNil))))) (mCons (mTup (mCons (mC (.str "leaf")) (mCons (mVar 1) (mCons (mBin fMulA (mC (.str "a")) (mC (.int 60))) (mNil))))) (mCons (mTup (mCons (mC (.str "leaf")) (mCons (mVar 1) (mCons (mCall m__law_text (mCons (mVar 4) (mNil))) (mNil))))) (mNil))))))
    (sSeq (sIf (mTB (mBin fEq (mVar 2) (mTup (mNil)))) (sExpr (mBM ckL fAppend (mVar 5) (mCons (mTup (mCons (mC (.str "bare")) (mNil))) mNil))) (sSkip))
    (sSeq (sIf (mTB (mBin fLt (mVar 3) (mVar 0))) (sExpr (mBM ckL fAppend (mVar 5) (mCons (mTup (mCons (mC (.str "leaf")) (mCons (mBin fXor (mVar 1) (mBin fShl (mC (.int 1)) (mBin fMod (mVar 4) (mBin fSub (mVar 0) (mVar 3))))) (mCons (mC (.str "b")) (mNil))))) mNil))) (sSkip))
    (sSeq (sIf (mTB (mBin fLt (mBin fAdd (mVar 3) (mC (.int 1))) (mVar 0))) (sSeq (sAsg 6 (mBin fAdd (mBin fAdd (mVar 3) (mC (.int 1))) (mBin fMod (mVar 4) (mBin fSub (mBin fSub (mVar 0) (mC (.int 1))) (mVar 3)))))
    (sSeq (sExpr (mBM ckL fAppend (mVar 5) (mCons (mTup (mCons (mC (.str "fork")) (mCons (mVar 6) (mCons (mBin fXor (mBin fShr (mVar 1) (mBin fSub (mVar 0) (mVar 6))) (mC (.int 1))) (mCons (mC (.int 0)) (mCons (mBin fSub (mBin fPow (mC (.int 10)) (mC (.int 60))) (mC (.int 1))) (mNil))))))) mNil)))
    (sExpr (mBM ckL fAppend (mVar 5) (mCons (mTup (mCons (mC (.str "fork")) (mCons (mVar 6) (mCons (mBin fXor (mBin fShr (mVar 1) (mBin fSub (mVar 0) (mVar 6))) (mC (.int 1))) (mCons (mC (.str "")) (mCons (mC (.str "x")) (mNil))))))) mNil))))) (sSkip))
    (sRet (mTup (mCons (mVar 2) (mCons (mBin fItem (mVar 5) (mBin fMod (mBin fDiv (mVar 4) (mC (.int 7))) (mCB fLen (mCons (mVar 5) mNil)))) (mNil))))))))
noncomputable def m__law_good : List D → Sto → R D := mDef 7 b__law_good
noncomputable def l1_law : Ms :=
    sSeq (sIf (mTB (mBin fIsN (mCall m_is_slip (mCons (mVar 1) (mCons (mVar 2) (mCons (mCall m__law_bad (mCons (mVar 6) (mCons (mVar 1) (mCons (mVar 2) (mCons (mVar 3) (mCons (mVar 5) (mCons (mVar 4) (mNil)))))))) (mNil))))) (mC (.bl false)))) (sRet (mC (.bl false))) (sSkip))
    (sIf (mTB (mBin fIsN (mCall m_is_slip (mCons (mVar 1) (mCons (mVar 2) (mCons (mCall m__law_good (mCons (mVar 1) (mCons (mVar 2) (mCons (mVar 3) (mCons (mVar 4) (mCons (mBin fMod (mVar 6) (mBin fPow (mC (.int 10)) (mC (.int 30)))) (mNil))))))) (mNil))))) (mC (.bl true)))) (sRet (mC (.bl false))) (sSkip))
/-- law: _law_script 0, _law_bits_here 1, _law_key_here 2, _law_steps_here 3, _law_low 4, _law_end_here 5, _law_cell 6 -/
noncomputable def b_law : Ms :=
    sSeq (sAsg 1 (mCall m__law_bits (mCons (mCall m__law_at (mCons (mVar 0) (mCons (mC (.int 0)) (mNil)))) (mNil))))
    (sSeq (sAsg 2 (mCall m__law_key (mCons (mVar 1) (mCons (mCall m__law_at (mCons (mVar 0) (mCons (mC (.int 1)) (mNil)))) (mCons (mLst (mNil)) (mNil))))))
    (sSeq (sAsg 3 (mCall m__law_steps (mCons (mCall m__law_at (mCons (mVar 0) (mCons (mC (.int 2)) (mNil)))) (mCons (mC (.int 0)) (mCons (mVar 1) (mNil))))))
    (sSeq (sAsg 4 (mCall m__law_place (mCons (mVar 3) (mCons (mC (.int 0)) (mNil)))))
    (sSeq (sAsg 5 (mCall m__law_end (mCons (mCall m__law_at (mCons (mVar 0) (mCons (mC (.int 3)) (mNil)))) (mCons (mVar 1) (mCons (mVar 2) (mCons (mVar 4) (mNil)))))))
    (sSeq (sIf (mTB (mBin fIsN (mCall m_is_slip (mCons (mVar 1) (mCons (mVar 2) (mCons (mTup (mCons (mVar 3) (mCons (mVar 5) (mNil)))) (mNil))))) (mC (.bl true)))) (sRet (mC (.bl false))) (sSkip))
    (sSeq (sFor (mIt (mBin fAdd (mSl (mVar 0) (mO1 (mC (.int 4))) (mO1 (mC (.int 44)))) (mLst (mCons (mCall m__law_at (mCons (mVar 0) (mCons (mC (.int 81)) (mNil)))) (mCons (mCall m__law_at (mCons (mVar 0) (mCons (mC (.int 82)) (mNil)))) (mNil)))))) (fName 6) l1_law)
    (sRet (mBin fIs (mCall m_is_slip (mCons (mVar 1) (mCons (mVar 2) (mCons (mTup (mCons (mVar 3) (mCons (mVar 5) (mNil)))) (mNil))))) (mC (.bl true))))))))))
noncomputable def m_law : List D → Sto → R D := mDef 7 b_law
/-! ### the mathematics -/
/-! terms -/
abbrev big : Int := 1000000000000000000000000000000000000000000000000000000000000
/-! what is written -/
/-- a part: a whole number, a text of plain signs -/
def Sz (b : Nat) (d : D) : Prop := (∃ n, d = .int n ∧ 0 ≤ n ∧ n < big) ∨ ∃ z : Str, d = .str z ∧ z.length ≤ b ∧ ∀ c ∈ z.cps.toList, c < 128
theorem Sz.up {b k : Nat} {d : D} (h : Sz b d) (hb : b ≤ k) : Sz k d := by
  rcases h with h | ⟨z, h1, h2, h3⟩
  · exact .inl h
  · exact .inr ⟨z, h1, by omega, h3⟩
theorem Sz.pt {b : Nat} {d : D} (h : Sz b d) : isPt d = true := by
  rcases h with ⟨n, rfl, _⟩ | ⟨z, rfl, _⟩ <;> rfl
theorem Sz.ok {b : Nat} {d : D} (h : Sz b d) : okPt d = true := by
  rcases h with ⟨n, rfl, _⟩ | ⟨z, rfl, _, hc⟩
  · rfl
  · show PyData.strOk z = true
    unfold PyData.strOk
    rw [Array.all_eq_true']
    intro c h1
    have := hc c (by simpa using h1)
    simp
    omega
theorem log_big {n : Int} (h0 : 0 ≤ n) (h1 : n < big) : n.natAbs.log2 < 1920 := by
  have e : (2 : Nat) ^ 200 = 1606938044258990275541962092341162602522202993782792835301376 := by decide +kernel
  have h2 : n.natAbs < 2 ^ 200 := by
    rw [e]
    have : n < 1000000000000000000000000000000000000000000000000000000000000 := h1
    omega
  have := log_lt h2 (by decide)
  omega
theorem len_num7 {n : Nat} (h : n ≤ 100000) : (num (n : Int)).length ≤ 7 := num_len (k := 6) (by decide) (by omega)
/-! a good term: one to eight parts, the first a text -/
theorem num_cps (n : Nat) : (num (n : Int)).cps.toList = TL.numL n := TL.tl_num n
theorem numL_lo (n : Nat) : ∀ c ∈ TL.numL n, c < 128 := by
  intro c hc
  have := TL.numL_digits n c hc
  omega
theorem num_codes {n : Int} (h : 0 ≤ n) : ∀ c ∈ (num n).cps.toList, c < 128 := by
  intro c hc
  rw [show n = ((n.toNat : Nat) : Int) by omega, num_cps] at hc
  exact numL_lo _ c hc
theorem app_codes {a b : Str} (h1 : ∀ c ∈ a.cps.toList, c < 128) (h2 : ∀ c ∈ b.cps.toList, c < 128) : ∀ c ∈ (a ++ b).cps.toList, c < 128 := by
  intro c hc
  rw [Str.cps_append, Array.toList_append] at hc
  rcases List.mem_append.mp hc with h | h
  · exact h1 c h
  · exact h2 c h
theorem sz_int {n : Int} (h0 : 0 ≤ n) (h1 : n < big) : Sz 61 (.int n) := .inl ⟨n, rfl, h0, h1⟩
/-! the weak stamper -/
/-! stampers -/
/-! the law's stampers -/
theorem m_code : ∀ c ∈ ("m" : Str).cps.toList, c < 128 := by decide +kernel
theorem sz_m {n : Int} (h0 : 0 ≤ n) (h : n < 1000000) : Sz 61 (.str ("m" ++ num n)) := by
  have := num_len (n := n) (k := 6) (by decide) (by omega)
  refine .inr ⟨_, rfl, ?_, app_codes m_code (num_codes h0)⟩
  rw [Str.length_append]
  have : ("m" : Str).length = 1 := rfl
  omega
/-! numbers -/
theorem pow_int (n : Nat) : (2 : Int) ^ n = ((2 ^ n : Nat) : Int) := by simp
theorem pow60 {b : Nat} (h : b ≤ 60) : 2 ^ b ≤ 1152921504606846976 := by
  have := Nat.pow_le_pow_right (n := 2) (by decide) h
  have e : 2 ^ 60 = 1152921504606846976 := by decide
  omega
theorem r_start (b k d : Nat) (h : d ≤ b) (S : Sto) : m_start [.int (b : Int), .int (k : Int), .int (d : Int)] S = .ok (.int ((k / 2 ^ (b - d) : Nat) : Int)) S := by
  have e : ((b : Int) - (d : Int)) = ((b - d : Nat) : Int) := by omega
  have h2 : (d : Int) ≤ (b : Int) := by omega
  have e3 : (((b : Int) - (d : Int))).toNat = b - d := by omega
  simp [m_start, b_start, h2, e3]
theorem small_big {n : Int} (h : n < 10 ^ 50) : n < big := Int.lt_trans h (by decide)
theorem lst_of {T : Sto} {L : Nat} {es : List D} (h : T[L]? = some (.lst es)) : lstAt T L = some es := by
  unfold lstAt
  rw [h]
theorem rdl_of {T : Sto} {L : Nat} {es : List D} (h : T[L]? = some (.rdl es)) : lstAt T L = some es := by
  unfold lstAt
  rw [h]
theorem cut_ints (ns : List Int) (lo hi : Option Int) : Eng.cutD (ns.map D.int) lo hi = (Eng.cutD ns lo hi).map D.int := by
  unfold Eng.cutD
  rw [List.length_map, List.map_take, List.map_drop]
theorem r_at {T : Sto} (ns : List Int) (h : T[0]? = some (.rdl (ns.map D.int))) (k : Int) (h0 : 0 ≤ k) : ∃ c G, m__law_at [.ref 0, .int k] T = .ok (.int c) (T ++ G) := by
  have l := rdl_of h
  by_cases hi : k < ns.length
  · have e : (ns.map D.int)[k.toNat]? = some (.int (ns[k.toNat]'(by omega))) := by
      rw [List.getElem?_map, List.getElem?_eq_getElem (by omega)]
      rfl
    refine ⟨ns[k.toNat]'(by omega), [], ?_⟩
    rw [List.append_nil]
    simp [m__law_at, b__law_at, h, l, hi, atI_at h0 (show k < (ns.map D.int).length by simpa using hi), e]
  · generalize hms : Eng.cutD ns none (some 5) = ms
    have hc := cut_ints ns none (some 5)
    rw [hms] at hc
    have hT1 : (T ++ [Ob.lst (ms.map D.int)])[T.length]? = some (.lst (ms.map D.int)) := by simp
    have lT1 := lst_of hT1
    obtain ⟨ρ', S', e1, q1, v, o3, q2⟩ := for_inv (it := itL T.length ms.length) (f := fName 3) (b := l1__law_at)
      (fun i ρ S => S = T ++ [.lst (ms.map D.int)] ∧ ∃ (v : Int) (o3 : Option D), ρ = [some (.ref 0), some (.int k), some (.int v), o3])
      (fun i ρ S hi ⟨q1, v, o3, q2⟩ => by
        subst q1 q2
        have hi' : i < ms.length := hi
        have c1 : cMul1 v 31 = true := cMul1_r (by decide)
        exact ⟨.int ms[i], _, [some (.ref 0), some (.int k), some (.int ((v * 31 + ms[i]) % 1000003)), some (.int ms[i])], T ++ [.lst (ms.map D.int)], itL_nx lT1 (ints_at hi'), rfl, by simp [l1__law_at, c1], rfl, _, _, rfl⟩)
      (fun ρ S ⟨q1, _⟩ => by subst q1; exact itL_fin lT1 (by simp)) (ρ := [some (.ref 0), some (.int k), some (.int (17 + (ns.length : Int))), none]) (S := T ++ [.lst (ms.map D.int)]) ⟨rfl, _, none, rfl⟩
    subst q1 q2
    generalize hv2 : (v + 7919 * k) % 1000003 = v2
    have c1 : cMul1 7919 k = true := cMul1_l (by decide)
    have c2 : cMul1 v2 v2 = true := cMul1_r (by omega)
    have hmi : mIt (mSl (mVar 0) (mO0) (mO1 (mC (.int 5)))) [some (.ref 0), some (.int k), some (.int (17 + (ns.length : Int))), none] T = .ok (itL T.length ms.length) (T ++ [.lst (ms.map D.int)]) := by simp [h, l, hc]
    refine ⟨v2 * v2 % 2147483629, [.lst (ms.map D.int)], def_rt (ρ0 := [some (.ref 0), some (.int k), none, none]) (seq_nx (S' := T) (ρ' := [some (.ref 0), some (.int k), none, none]) (by simp [h, l, hi]) (seq_nx (S' := T) (asg_of' (d := .int (17 + (ns.length : Int))) (by simp [h, l])) (seq_nx (for_of hmi e1) (by simp [c1, hv2, c2]))))⟩
theorem r_bits (c : Int) (T : Sto) : ∃ (b : Nat) (G : Sto), 1 ≤ b ∧ b ≤ 60 ∧ m__law_bits [.int c] T = .ok (.int (b : Int)) (T ++ G) := by
  have h3 : c % 3 = 0 ∨ c % 3 = 1 ∨ c % 3 = 2 := by omega
  have a0 : atI [D.int 60, .int 8, .int 60] 0 = some (.int 60) := rfl
  have a1 : atI [D.int 60, .int 8, .int 60] 1 = some (.int 8) := rfl
  have a2 : atI [D.int 60, .int 8, .int 60] 2 = some (.int 60) := rfl
  rcases h3 with h | h | h
  · refine ⟨(1 + c / 3 % 60).toNat, [.lst [.int 60, .int 8, .int 60]], by omega, by omega, ?_⟩
    rw [show (((1 + c / 3 % 60).toNat : Nat) : Int) = 1 + c / 3 % 60 by omega]
    simp [m__law_bits, b__law_bits, h, a0]
  · refine ⟨(1 + c / 3 % 8).toNat, [.lst [.int 60, .int 8, .int 60]], by omega, by omega, ?_⟩
    rw [show (((1 + c / 3 % 8).toNat : Nat) : Int) = 1 + c / 3 % 8 by omega]
    simp [m__law_bits, b__law_bits, h, a1]
  · refine ⟨(1 + c / 3 % 60).toNat, [.lst [.int 60, .int 8, .int 60]], by omega, by omega, ?_⟩
    rw [show (((1 + c / 3 % 60).toNat : Nat) : Int) = 1 + c / 3 % 60 by omega]
    simp [m__law_bits, b__law_bits, h, a2]
/-! lists of whole numbers compared -/
theorem toPys_ints {S : Sto} {n : Nat} : ∀ xs : List Int, toPys S (n + 1) (xs.map D.int) = some (xs.map PyData.int)
  | [] => by unfold toPys; rfl
  | x :: r => by
    rw [List.map_cons, toPys, toPys_ints r, toPy]
    rfl
theorem eq_nil {S : Sto} {a b : Nat} {xs : List Int} (ha : lstAt S a = some (xs.map D.int)) (hb : lstAt S b = some []) (hl : xs.length ≤ 1) : eqD S (.ref a) (.ref b) = some (decide (xs = [])) := by
  show deepEq S _ _ = _
  unfold deepEq
  have e1 : toPy S 64 (.ref a) = some (.list (xs.map PyData.int)) := by
    rw [toPy, ha]
    dsimp only
    rw [toPys_ints]
    rfl
  have e2 : toPy S 64 (.ref b) = some (.list []) := by
    rw [toPy, hb]
    dsimp only
    rw [toPys]
    rfl
  rw [e1, e2]
  dsimp only
  match xs, hl with
  | [], _ =>
    have : (SeqAt.shaped (.list (([] : List Int).map PyData.int)) && SeqAt.shaped (.list [])) = true := by decide
    rw [this]
    simp [PyData.eqv, PyData.eqvAll]
  | [x], _ =>
    have : (SeqAt.shaped (.list ([x].map PyData.int)) && SeqAt.shaped (.list [])) = true := by simp [SeqAt.shaped, PyData.canLay0, PyData.canLayAll0, PyData.depth, PyData.depthAll]
    rw [this]
    simp [PyData.eqv, PyData.eqvAll]
theorem cut_nat {c : Int} {b : Nat} : ∃ k : Nat, k < 2 ^ b ∧ c % ((2 ^ b : Nat) : Int) = (k : Int) := by
  have hp := Nat.two_pow_pos b
  have m0 := Int.emod_nonneg c (show ((2 ^ b : Nat) : Int) ≠ 0 by omega)
  have m1 := Int.emod_lt_of_pos c (show (0 : Int) < ((2 ^ b : Nat) : Int) by omega)
  exact ⟨(c % ((2 ^ b : Nat) : Int)).toNat, by omega, by omega⟩
theorem r_key (c : Int) {b : Nat} (h1 : 1 ≤ b) (h2 : b ≤ 60) {T : Sto} {o : Nat} {xs : List Nat} (ho : T[o]? = some (.lst (xs.map fun x : Nat => D.int (x : Int)))) (hl : xs.length ≤ 1) (hx : ∀ x ∈ xs, x < 2 ^ b) :
    ∃ (k : Nat) (G : Sto), k < 2 ^ b ∧ m__law_key [.int (b : Int), .int c, .ref o] T = .ok (.int (k : Int)) (T ++ G) := by
  have hp := Nat.two_pow_pos b
  have hb : ((b : Nat) : Int) ≤ 134217727 := by omega
  have hp' : (0 : Int) < 2 ^ b := by rw [pow_int]; omega
  have e2 : (2 : Int) ^ b = ((2 ^ b : Nat) : Int) := pow_int b
  have hcS : cShl 1 (b : Int) = true := by simp [hb]
  by_cases h3 : c % 5 = 0
  · obtain ⟨k, hk, e⟩ := cut_nat (c := c / 5) (b := b)
    refine ⟨k, [], hk, ?_⟩
    rw [← e, ← e2, List.append_nil]
    simp [m__law_key, b__law_key, h3, hb, hp']
  by_cases h4 : c % 5 = 1
  · obtain ⟨k, hk, e⟩ := cut_nat (c := c / 5) (b := b)
    refine ⟨2 ^ b - 1 - k, [], by omega, ?_⟩
    rw [List.append_nil]
    have e' : c / 5 % 2 ^ b = (k : Int) := by rw [e2]; exact e
    have e3 : (2 : Int) ^ b - 1 - (k : Int) = ((2 ^ b - 1 - k : Nat) : Int) := by rw [e2]; omega
    rw [← e3]
    simp [m__law_key, b__law_key, h3, h4, hb, hp', e']
  have fin : ∀ U : Sto, ∃ k : Nat, k < 2 ^ b ∧ ∀ o5, (sRet (mBin fMod (mBin fMulA (mVar 4) (mC (.int 1152921504606846883))) (mVar 3))) [some (.int (b : Int)), some (.int c), some (.ref o), some (.int (2 ^ b)), some (.int (c / 5)), o5] U = .fl (.rt (.int (k : Int))) U := fun U => by
    obtain ⟨k, hk, e⟩ := cut_nat (c := c / 5 * 1152921504606846883) (b := b)
    have c1 : cMul1 (c / 5) 1152921504606846883 = true := cMul1_r (by decide)
    have e' : c / 5 * 1152921504606846883 % 2 ^ b = (k : Int) := by rw [e2]; exact e
    exact ⟨k, hk, fun o5 => by simp [c1, hp', e']⟩
  by_cases h5 : c % 5 = 2
  · have hoT : (T ++ [Ob.lst []])[o]? = some (.lst (xs.map fun x : Nat => D.int (x : Int))) := at_more ho
    have lo : lstAt (T ++ [Ob.lst []]) o = some ((xs.map fun x : Nat => (x : Int)).map D.int) := by rw [List.map_map]; exact lst_of hoT
    have ln : lstAt (T ++ [Ob.lst []]) T.length = some [] := lst_of (by simp)
    have heq := eq_nil lo ln (by rw [List.length_map]; exact hl)
    match xs, hl, hx with
    | [], _, _ =>
      obtain ⟨k, hk, fin⟩ := fin (T ++ [.lst []])
      refine ⟨k, [.lst []], hk, def_rt (ρ0 := [some (.int (b : Int)), some (.int c), some (.ref o), none, none, none]) (seq_nx (S' := T) (asg_of' (d := .int (2 ^ b)) (by simp [hb])) (seq_nx (S' := T) (asg_of' (d := .int (c / 5)) (by simp)) (seq_nx (S' := T) (ρ' := [some (.int (b : Int)), some (.int c), some (.ref o), some (.int (2 ^ b)), some (.int (c / 5)), none]) (by simp [h3]) (seq_nx (S' := T) (ρ' := [some (.int (b : Int)), some (.int c), some (.ref o), some (.int (2 ^ b)), some (.int (c / 5)), none]) (by simp [h4]) (seq_nx (S' := T ++ [Ob.lst []]) (ρ' := [some (.int (b : Int)), some (.int c), some (.ref o), some (.int (2 ^ b)), some (.int (c / 5)), none]) (by simp [h5, heq]) (fin none))))))⟩
    | [x], _, hx =>
      have hxb := hx x (by simp)
      generalize hf : c / 5 * 48271 % 65537 % (b : Int) = fl
      have f0 : 0 ≤ fl := by rw [← hf]; exact Int.emod_nonneg _ (by omega)
      have f1 : fl < (b : Int) := by rw [← hf]; exact Int.emod_lt_of_pos _ (by omega)
      obtain ⟨m, rfl⟩ : ∃ m : Nat, fl = (m : Int) := ⟨fl.toNat, by omega⟩
      have hm : m < b := by omega
      have c1 : cMul1 (c / 5) 48271 = true := cMul1_r (by decide)
      have hbp : (0 : Int) < (b : Int) := by omega
      have hbp' : 0 < b := by omega
      have hm1 : c / 5 % 1 = 0 := by omega
      have a0 : atI [D.int (x : Int)] 0 = some (.int (x : Int)) := rfl
      have hm2 : (m : Int) ≤ 134217727 := by omega
      have exy : Builtin.bitXor (x : Int) (2 ^ m) = ((x ^^^ 2 ^ m : Nat) : Int) := by
        have : (2 : Int) ^ m = ((2 ^ m : Nat) : Int) := pow_int m
        rw [this, _root_.Bits.bitXor_pp (Int.natCast_nonneg _) (Int.natCast_nonneg _), Int.toNat_natCast, Int.toNat_natCast]
      have hk : x ^^^ 2 ^ m < 2 ^ b := Nat.xor_lt_two_pow hxb (Nat.pow_lt_pow_right (by decide) hm)
      have lo2 := lst_of hoT
      simp at lo2
      have heq2 : eqD (T ++ [Ob.lst []]) (.ref o) (.ref T.length) = some false := by rw [heq]; simp
      refine ⟨x ^^^ 2 ^ m, [.lst []], hk, def_rt (ρ0 := [some (.int (b : Int)), some (.int c), some (.ref o), none, none, none]) (seq_nx (S' := T) (asg_of' (d := .int (2 ^ b)) (by simp [hb])) (seq_nx (S' := T) (asg_of' (d := .int (c / 5)) (by simp)) (seq_nx (S' := T) (ρ' := [some (.int (b : Int)), some (.int c), some (.ref o), some (.int (2 ^ b)), some (.int (c / 5)), none]) (by simp [h3]) (seq_nx (S' := T) (ρ' := [some (.int (b : Int)), some (.int c), some (.ref o), some (.int (2 ^ b)), some (.int (c / 5)), none]) (by simp [h4]) ?_))))⟩
      refine seq_rt ?_
      refine if_t (S1 := T ++ [Ob.lst []]) (by simp [h5, heq2]) ?_
      rw [← exy]
      have hoT' : (T ++ [Ob.lst []])[o]? = some (.lst [.int (x : Int)]) := hoT
      generalize T ++ [Ob.lst []] = U at *
      refine seq_nx (S' := U) (asg_of' (d := .int (m : Int)) (by simp [c1, hbp, hbp', hf])) ?_
      simp [hoT', lo2, hm1, a0, hm2]
  · obtain ⟨k, hk, fin⟩ := fin T
    refine ⟨k, [], hk, ?_⟩
    rw [List.append_nil]
    exact def_rt (ρ0 := [some (.int (b : Int)), some (.int c), some (.ref o), none, none, none]) (seq_nx (S' := T) (asg_of' (d := .int (2 ^ b)) (by simp [hb])) (seq_nx (S' := T) (asg_of' (d := .int (c / 5)) (by simp)) (seq_nx (S' := T) (ρ' := [some (.int (b : Int)), some (.int c), some (.ref o), some (.int (2 ^ b)), some (.int (c / 5)), none]) (by simp [h3]) (seq_nx (S' := T) (ρ' := [some (.int (b : Int)), some (.int c), some (.ref o), some (.int (2 ^ b)), some (.int (c / 5)), none]) (by simp [h4]) (seq_nx (S' := T) (ρ' := [some (.int (b : Int)), some (.int c), some (.ref o), some (.int (2 ^ b)), some (.int (c / 5)), none]) (by simp [h5]) (fin none))))))

/-! marks, steps -/
theorem r_mark (n : Int) (T : Sto) : ∃ d, m__law_mark [.int n] T = .ok d T ∧ Sz 61 d := by
  have c0 : cMul1 n 69621 = true := cMul1_r (by decide)
  have s0 : (sAsg 0 (mBin fMod (mBin fMulA (mVar 0) (mC (.int 69621))) (mC (.int 1000003)))) [some (.int n)] T = .fl (.nx [some (.int (n * 69621 % 1000003))]) T := asg_of' (d := .int (n * 69621 % 1000003)) (by simp [c0])
  generalize hx : n * 69621 % 1000003 = x at *
  have x0 : 0 ≤ x := by omega
  have x1 : x < 1000003 := by omega
  have go : ∀ {r : Ms} {d : D}, b__law_mark = sSeq (sAsg 0 (mBin fMod (mBin fMulA (mVar 0) (mC (.int 69621))) (mC (.int 1000003)))) r → r [some (.int x)] T = .fl (.rt d) T → m__law_mark [.int n] T = .ok d T := fun {r d} e h => def_rt (ρ0 := [some (.int n)]) (by rw [e]; exact seq_nx s0 h)
  by_cases h0 : x % 4 = 0
  · have hl : (x % 50).natAbs.log2 < 1920 := log_big (by omega) (Int.lt_trans (show x % 50 < 1000000 by omega) (by decide))
    have hln := num_len (n := x % 50) (k := 6) (by decide) (by omega)
    have hm : ("m" : Str).length + (num (x % 50)).length ≤ 16777216 := by
      have : ("m" : Str).length = 1 := rfl
      omega
    exact ⟨.str ("m" ++ num (x % 50)), go rfl (by simp [h0, hl, hm]), sz_m (by omega) (by omega)⟩
  by_cases h1 : x % 4 = 1
  · exact ⟨.int (x / 4 % 12), go rfl (by simp [h0, h1]), sz_int (by omega) (Int.lt_trans (show x / 4 % 12 < 12 by omega) (by decide))⟩
  have p30 : (10 : Int) ^ (30 : Nat) = 1000000000000000000000000000000 := by decide +kernel
  have p60 : (10 : Int) ^ (60 : Nat) = big := by decide +kernel
  have k30 : fPow (.int 10) (.int 30) T = some (.int 1000000000000000000000000000000, T) := by simp [p30]
  have k60 : fPow (.int 10) (.int 60) T = some (.int big, T) := by simp [p60]
  by_cases h2 : x % 4 = 2
  · have c2 : cMul1 x 1000000000000000000000000000000 = true := cMul1_l (by omega)
    refine ⟨.int (x * 1000000000000000000000000000000), go rfl (by simp [h0, h1, h2, c2]), sz_int (by omega) ?_⟩
    show x * 1000000000000000000000000000000 < 1000000000000000000000000000000000000000000000000000000000000
    omega
  · refine ⟨.int (999999999999999999999999999999999999999999999999999999999999 - x), go rfl (by simp [h0, h1, h2]), sz_int ?_ ?_⟩
    · omega
    · show 999999999999999999999999999999999999999999999999999999999999 - x < 1000000000000000000000000000000000000000000000000000000000000
      omega
abbrev Ss := List (Nat × D)
def stD (ss : Ss) : List D := ss.map fun p => .tup [.int (p.1 : Int), p.2]
def Stps (b : Nat) : Nat → Ss → Prop
  | _, [] => True
  | lo, p :: r => lo ≤ p.1 ∧ p.1 < b ∧ Sz 61 p.2 ∧ Stps b (p.1 + 1) r
/-- the place behind the steps -/
def plc : Nat → Ss → Nat
  | lo, [] => lo
  | _, p :: r => plc (p.1 + 1) r
theorem Stps.snoc {b : Nat} : ∀ {lo : Nat} {ss : Ss} {d : Nat} {m : D}, Stps b lo ss → plc lo ss ≤ d → d < b → Sz 61 m → Stps b lo (ss ++ [(d, m)])
  | lo, [], d, m, _, h2, h3, h4 => ⟨h2, h3, h4, trivial⟩
  | lo, p :: r, d, m, ⟨a1, a2, a3, a4⟩, h2, h3, h4 => ⟨a1, a2, a3, Stps.snoc a4 h2 h3 h4⟩
theorem plc_snoc : ∀ (lo : Nat) (ss : Ss) (d : Nat) (m : D), plc lo (ss ++ [(d, m)]) = d + 1
  | _, [], _, _ => rfl
  | _, p :: r, d, m => plc_snoc (p.1 + 1) r d m
theorem plc_le {b : Nat} : ∀ {lo : Nat} {ss : Ss}, Stps b lo ss → lo ≤ b → plc lo ss ≤ b ∧ lo ≤ plc lo ss ∧ ss.length ≤ plc lo ss - lo
  | lo, [], _, h => ⟨h, Nat.le_refl _, Nat.zero_le _⟩
  | lo, p :: r, ⟨a1, a2, a3, a4⟩, h => by
    obtain ⟨b1, b2, b3⟩ := plc_le a4 (by omega)
    refine ⟨b1, by show lo ≤ plc (p.1 + 1) r; omega, ?_⟩
    show r.length + 1 ≤ plc (p.1 + 1) r - lo
    omega
theorem plc_last : ∀ (lo : Nat) (ss : Ss), ss = [] ∨ ∃ q : Nat × D, ss.getLast? = some q ∧ plc lo ss = q.1 + 1
  | _, [] => .inl rfl
  | _, [p] => .inr ⟨p, rfl, rfl⟩
  | _, p :: q :: r => by
    rcases plc_last (p.1 + 1) (q :: r) with h | ⟨z, h1, h2⟩
    · cases h
    · exact .inr ⟨z, by rw [List.getLast?_cons_cons]; exact h1, h2⟩
theorem last_at {X : List D} {y : D} (h : X.getLast? = some y) : atI X (-1) = some y := by
  have hne : X ≠ [] := fun z => by rw [z] at h; cases h
  have hl : 0 < X.length := List.length_pos_iff.mpr hne
  unfold atI ixN
  rw [if_neg (by decide), if_pos (by omega)]
  show X[((-1 : Int) + (X.length : Int)).toNat]? = some y
  rw [show ((-1 : Int) + (X.length : Int)).toNat = X.length - 1 by omega, ← h, List.getLast?_eq_getElem?]
theorem r_steps (c : Int) {lo b : Nat} (hlo : lo ≤ b) (hb : b ≤ 60) (T : Sto) : ∃ (ss : Ss) (G : Sto), m__law_steps [.int c, .int (lo : Int), .int (b : Int)] T = .ok (.tup (stD ss)) (T ++ G) ∧ Stps b lo ss := by
  generalize hn : c / 4 % 65537 = n
  have cnt : ((b : Int) - (lo : Int)).toNat = b - lo := by omega
  obtain ⟨ρ', S', e1, ss, o5, q1, q2, q3, q4⟩ := for_inv (it := itR (lo : Int) (b - lo)) (f := fName 5) (b := l1__law_steps)
    (fun i ρ S => ∃ (ss : Ss) (o5 : Option D), ρ = [some (.int c), some (.int (lo : Int)), some (.int (b : Int)), some (.int n), some (.ref T.length), o5] ∧ S = T ++ [.lst (stD ss)] ∧ Stps b lo ss ∧ plc lo ss ≤ lo + i)
    (fun i ρ S hi ⟨ss, o5, q1, q2, q3, q4⟩ => by
      subst q1 q2
      have hi' : i < b - lo := hi
      obtain ⟨mk, em, hm⟩ := r_mark (n + 97 * ((lo + i : Nat) : Int)) (T ++ [.lst (stD ss)])
      have hv : (lo : Int) + (i : Int) = ((lo + i : Nat) : Int) := by omega
      have hat : (T ++ [Ob.lst (stD ss)])[T.length]? = some (.lst (stD ss)) := by simp
      have lat := lst_of hat
      have hlen : (stD ss).length < 16777216 := by
        have := (plc_le q3 hlo).2.2
        unfold stD
        rw [List.length_map]
        omega
      have hset : (T ++ [Ob.lst (stD ss)]).set T.length (.lst (stD ss ++ [.tup [.int ((lo + i : Nat) : Int), mk]])) = T ++ [.lst (stD (ss ++ [(lo + i, mk)]))] := by
        unfold stD
        rw [List.map_append]
        simp
      generalize hK : ((lo + i : Nat) : Int) = K at *
      have c1 : cMul1 n (K + 3) = true := cMul1_r (by omega)
      have c2 : cMul1 (n * (K + 3)) 48271 = true := cMul1_r (by decide)
      have c3 : cMul1 97 K = true := cMul1_l (by decide)
      by_cases ht : n * (K + 3) * 48271 % 65537 % 4 < c % 4
      · refine ⟨.int K, [some (.int c), some (.int (lo : Int)), some (.int (b : Int)), some (.int n), some (.ref T.length), some (.int K)], [some (.int c), some (.int (lo : Int)), some (.int (b : Int)), some (.int n), some (.ref T.length), some (.int K)], T ++ [.lst (stD (ss ++ [(lo + i, mk)]))], by show some (D.int ((lo : Int) + (i : Int))) = _; rw [hv], rfl, ?_, ss ++ [(lo + i, mk)], _, rfl, rfl, q3.snoc q4 (by omega) hm, by rw [plc_snoc]; omega⟩
        rw [← hset]
        generalize stD ss = L at *
        simp [l1__law_steps, c1, c2, c3, ht, em, lat, hat, hlen]
      · refine ⟨.int K, [some (.int c), some (.int (lo : Int)), some (.int (b : Int)), some (.int n), some (.ref T.length), some (.int K)], [some (.int c), some (.int (lo : Int)), some (.int (b : Int)), some (.int n), some (.ref T.length), some (.int K)], T ++ [.lst (stD ss)], by show some (D.int ((lo : Int) + (i : Int))) = _; rw [hv], rfl, ?_, ss, _, rfl, rfl, q3, by omega⟩
        simp [l1__law_steps, c1, c2, ht])
    (fun _ _ _ => rfl) (ρ := [some (.int c), some (.int (lo : Int)), some (.int (b : Int)), some (.int n), some (.ref T.length), none]) (S := T ++ [.lst []]) ⟨[], none, rfl, rfl, trivial, Nat.le_refl _⟩
  subst q1 q2
  have hat : (T ++ [Ob.lst (stD ss)])[T.length]? = some (.lst (stD ss)) := by simp
  have lat := lst_of hat
  have hlen : (stD ss).length ≤ 16777216 := by
    have := (plc_le q3 hlo).2.2
    have := (plc_le q3 hlo).1
    unfold stD
    rw [List.length_map]
    omega
  have hs1 : small62 (lo : Int) = true := small62_is (by omega)
  have hs2 : small62 (b : Int) = true := small62_is (by omega)
  refine ⟨ss, [.lst (stD ss)], def_rt (ρ0 := [some (.int c), some (.int (lo : Int)), some (.int (b : Int)), none, none, none]) (seq_nx (S' := T) (asg_of' (d := .int n) (by simp [hn])) (seq_nx (S' := T ++ [Ob.lst []]) (asg_of' (d := .ref T.length) (by simp)) (seq_nx (for_of (it := itR (lo : Int) (b - lo)) (S1 := T ++ [Ob.lst []]) ?_ e1) ?_))), q3⟩
  · simp [hs1, hs2, cnt]
  · generalize stD ss = L at *
    simp [lat, hat]

theorem toPy_pt {S : Sto} {d : D} (h : isPt d = true) (n : Nat) : toPy S (n + 1) d = some (ptPy d) := by
  cases d <;> first | (cases h; done) | skip
  all_goals (unfold toPy; rfl)
/-! tuples compared -/
theorem st_py {S : Sto} {n : Nat} : ∀ {b lo : Nat} {ss : Ss}, Stps b lo ss → toPys S (n + 2) (stD ss) = some (ss.map fun p => .tuple [.int (p.1 : Int), ptPy p.2])
  | _, _, [], _ => by
    show toPys S (n + 2) [] = some []
    rw [toPys]
  | b, _, p :: r, ⟨_, _, h3, h4⟩ => by
    show toPys S (n + 2) (.tup [.int (p.1 : Int), p.2] :: stD r) = _
    rw [toPys, st_py h4, toPy, toPys, toPys, toPys, toPy_pt h3.pt, toPy]
    rfl
theorem st_lay : ∀ {b lo : Nat} {ss : Ss}, Stps b lo ss → PyData.canLayAll0 (ss.map fun p => PyData.tuple [.int (p.1 : Int), ptPy p.2]) = true
  | _, _, [], _ => by simp [PyData.canLayAll0]
  | _, _, p :: r, ⟨_, _, h3, h4⟩ => by
    have h1 := canLay_pts [p.2] fun d hd => by
      rw [List.mem_singleton.mp hd]
      exact h3.ok
    rw [List.map_cons, List.map_nil] at h1
    simp only [PyData.canLayAll0, Bool.and_true] at h1
    rw [List.map_cons, PyData.canLayAll0, st_lay h4, PyData.canLay0]
    simp only [PyData.canLayAll0, PyData.canLay0, h1, Bool.and_self]
theorem st_depth : ∀ ss : Ss, PyData.depthAll (ss.map fun p => PyData.tuple [.int (p.1 : Int), ptPy p.2]) ≤ 1
  | [] => by simp [PyData.depthAll]
  | p :: r => by
    have h1 := depth_pts [p.2]
    rw [List.map_cons, List.map_nil] at h1
    simp only [PyData.depthAll] at h1
    have h2 := st_depth r
    rw [List.map_cons, PyData.depthAll, PyData.depth]
    simp only [PyData.depthAll, PyData.depth]
    omega
theorem eq_steps {S : Sto} {b lo : Nat} {ss : Ss} (h : Stps b lo ss) : eqD S (.tup (stD ss)) (.tup []) = some (decide (ss = [])) := by
  show deepEq S _ _ = _
  unfold deepEq
  rw [toPy, toPy, st_py h, toPys]
  dsimp only [Option.map]
  have hs : (SeqAt.shaped (.tuple (ss.map fun p => .tuple [.int (p.1 : Int), ptPy p.2])) && SeqAt.shaped (.tuple [])) = true := by
    unfold SeqAt.shaped
    have hd := st_depth ss
    rw [PyData.canLay0, st_lay h, PyData.depth]
    simp [PyData.canLay0, PyData.canLayAll0, PyData.depth, PyData.depthAll]
    omega
  rw [hs]
  cases ss with
  | nil => simp [PyData.eqv, PyData.eqvAll]
  | cons p r => simp [PyData.eqv, PyData.eqvAll]
/-! the place behind steps -/
theorem st_get {ss : Ss} {q : Nat × D} (h : ss.getLast? = some q) : (stD ss).getLast? = some (.tup [.int (q.1 : Int), q.2]) := by
  unfold stD
  rw [List.getLast?_map, h]
  rfl
theorem r_place {b lo : Nat} {ss : Ss} (h : Stps b lo ss) (T : Sto) : m__law_place [.tup (stD ss), .int (lo : Int)] T = .ok (.int (plc lo ss : Int)) T := by
  have he := eq_steps (S := T) h
  rcases plc_last lo ss with h0 | ⟨q, h1, h2⟩
  · subst h0
    have e0 : stD [] = [] := rfl
    have e1 : plc lo [] = lo := rfl
    rw [e0] at he ⊢
    rw [e1]
    simp [m__law_place, b__law_place, he]
  · have hne : ss ≠ [] := fun z => by rw [z] at h1; cases h1
    have la := last_at (st_get h1)
    have a0 : atI [D.int (q.1 : Int), q.2] 0 = some (.int (q.1 : Int)) := rfl
    rw [h2, Int.natCast_add]
    generalize stD ss = L at *
    simp [m__law_place, b__law_place, he, hne, la, a0]
theorem r_endd {b : Nat} {ss : Ss} (h : Stps b 0 ss) (T : Sto) : m_end_depth [.tup (stD ss)] T = .ok (.int (plc 0 ss : Int)) T := by
  have he := eq_steps (S := T) h
  rcases plc_last 0 ss with h0 | ⟨q, h1, h2⟩
  · subst h0
    have e0 : stD [] = [] := rfl
    have e1 : plc 0 [] = 0 := rfl
    rw [e0] at he ⊢
    rw [e1]
    simp [m_end_depth, b_end_depth, he]
  · have hne : ss ≠ [] := fun z => by rw [z] at h1; cases h1
    have la := last_at (st_get h1)
    have a0 : atI [D.int (q.1 : Int), q.2] 0 = some (.int (q.1 : Int)) := rfl
    rw [h2, Int.natCast_add]
    generalize stD ss = L at *
    simp [m_end_depth, b_end_depth, he, hne, la, a0]
/-! a value -/
theorem r_text (c : Int) (T : Sto) : ∃ z : Str, m__law_text [.int c] T = .ok (.str z) T ∧ z.length ≤ 60 ∧ ∀ c ∈ z.cps.toList, c < 128 := by
  generalize hA1 : (" !\"#$&'()*+,-./0123456789:;<=>?@ABCDEFGHIJKLMNOPQRSTUVWXYZ[\\]^_`" : Str) = A1
  generalize hA2 : ("abcdefghijklmnopqrstuvwxyz{|}~" : Str) = A2
  have l1 : A1.length = 64 := by rw [← hA1]; decide +kernel
  have l2 : A2.length = 30 := by rw [← hA2]; decide +kernel
  have c1 : ∀ c ∈ A1.cps.toList, c < 128 := by rw [← hA1]; decide +kernel
  have c2 : ∀ c ∈ A2.cps.toList, c < 128 := by rw [← hA2]; decide +kernel
  have hAl : (A1 ++ A2).length = 94 := by rw [Str.length_append]; omega
  have hAc := app_codes c1 c2
  have hcat : A1.length + A2.length ≤ 16777216 := by omega
  have s1 : (sAsg 1 (mC (.str A1))) [some (.int c), none, none, none, none] T = .fl (.nx [some (.int c), some (.str A1), none, none, none]) T := by simp
  have s2 : (sAsg 1 (mBin fAdd (mVar 1) (mC (.str A2)))) [some (.int c), some (.str A1), none, none, none] T = .fl (.nx [some (.int c), some (.str (A1 ++ A2)), none, none, none]) T := by simp [hcat]
  generalize hA : A1 ++ A2 = A at *
  -- how many signs
  obtain ⟨m, hm, s3⟩ : ∃ m : Nat, m ≤ 60 ∧ ∀ r : Ms, (sSeq (sAsg 2 (mBin fMod (mVar 0) (mC (.int 4)))) (sSeq (sIf (mTB (mBin fEq (mBin fMod (mBin fDiv (mVar 0) (mC (.int 4))) (mC (.int 8))) (mC (.int 1)))) (sAsg 2 (mC (.int 60))) (sSkip))
      (sSeq (sIf (mTB (mBin fEq (mBin fMod (mBin fDiv (mVar 0) (mC (.int 4))) (mC (.int 8))) (mC (.int 2)))) (sAsg 2 (mBin fMod (mBin fDiv (mVar 0) (mC (.int 32))) (mC (.int 61)))) (sSkip)) r))) [some (.int c), some (.str A), none, none, none] T = r [some (.int c), some (.str A), some (.int (m : Int)), none, none] T := by
    by_cases h1 : c / 4 % 8 = 1
    · exact ⟨60, by decide, fun r => by simp [h1]⟩
    by_cases h2 : c / 4 % 8 = 2
    · refine ⟨(c / 32 % 61).toNat, by omega, fun r => ?_⟩
      have e : (((c / 32 % 61).toNat : Nat) : Int) = c / 32 % 61 := by omega
      rw [e]
      simp [h1, h2]
    · refine ⟨(c % 4).toNat, by omega, fun r => ?_⟩
      have e : (((c % 4).toNat : Nat) : Int) = c % 4 := by omega
      rw [e]
      simp [h1, h2]
  have hs : small62 (m : Int) = true := small62_is (by omega)
  obtain ⟨ρ', S', e1, q0, z, o4, q1, q2, q3⟩ := for_inv (it := itR 0 m) (f := fName 4) (b := l1__law_text)
    (fun i ρ S => S = T ∧ ∃ (z : Str) (o4 : Option D), ρ = [some (.int c), some (.str A), some (.int (m : Int)), some (.str z), o4] ∧ z.length = i ∧ ∀ c ∈ z.cps.toList, c < 128)
    (fun i ρ S hi ⟨q0, z, o4, q1, q2, q3⟩ => by
      subst q0 q1
      have hi' : i < m := hi
      have cm : cMul1 (i : Int) (c / 128 % 5) = true := cMul1_r (by omega)
      generalize hq : (c / 4 + (i : Int) * (c / 128 % 5)) % 94 = q
      have p0 : 0 ≤ q := by omega
      have p1 : q < 94 := by omega
      have hlt : q.toNat < A.cps.toList.length := by
        have : A.cps.toList.length = 94 := hAl
        omega
      have hat : atI A.cps.toList q = some (A.cps.toList[q.toNat]'hlt) := by
        rw [atI_at p0 (by have : A.cps.toList.length = 94 := hAl; omega), List.getElem?_eq_getElem hlt]
      have hx := hAc _ (List.getElem_mem hlt)
      generalize A.cps.toList[q.toNat]'hlt = x at *
      have hA16 : A.length ≤ 16777216 := by omega
      have hx1 : (⟨#[x]⟩ : Str).length = 1 := rfl
      have hz1 : z.length + 1 ≤ 16777216 := by omega
      refine ⟨.int (i : Int), [some (.int c), some (.str A), some (.int (m : Int)), some (.str z), some (.int (i : Int))], [some (.int c), some (.str A), some (.int (m : Int)), some (.str (z ++ ⟨#[x]⟩)), some (.int (i : Int))], S, by show some (D.int (0 + (i : Int))) = _; rw [Int.zero_add], rfl, by simp [l1__law_text, cm, hAl, hq, hat, hx1, hz1], rfl, z ++ ⟨#[x]⟩, _, rfl, by rw [Str.length_append, hx1, q2], app_codes q3 fun c hc => ?_⟩
      rw [List.mem_singleton.mp (show c ∈ [_] from hc)]
      exact hx)
    (fun _ _ _ => rfl) (ρ := [some (.int c), some (.str A), some (.int (m : Int)), some (.str ""), none]) (S := T) ⟨rfl, "", none, rfl, rfl, fun c hc => by cases hc⟩
  subst q0 q1
  have q2' : z.length = m := q2
  refine ⟨z, def_rt (ρ0 := [some (.int c), none, none, none, none]) (seq_nx (S' := S') (ρ' := [some (.int c), some (.str A1), none, none, none]) ?_ (seq_nx (S' := S') (ρ' := [some (.int c), some (.str A), none, none, none]) ?_ ((s3 _).trans (seq_nx (S' := S') (ρ' := [some (.int c), some (.str A), some (.int (m : Int)), some (.str ""), none]) (by simp) (seq_nx (for_of (it := itR 0 m) (S1 := S') (by simp [hs]) e1) (by simp)))))), by omega, q3⟩
  · rw [← hA1]
    rfl
  · rw [hA2]
    exact s2

/-! ends of slips -/
theorem fork_num {b lo f key x : Nat} (h1 : lo < f) (h2 : f < b) (hk : key < 2 ^ b) (hx : x < 2 ^ (f - lo) - 1) :
    key / 2 ^ (b - f) - key / 2 ^ (b - f) % 2 ^ (f - lo) + (key / 2 ^ (b - f) % 2 ^ (f - lo) + 1 + x) % 2 ^ (f - lo) < 2 ^ f ∧
    (key / 2 ^ (b - f) - key / 2 ^ (b - f) % 2 ^ (f - lo) + (key / 2 ^ (b - f) % 2 ^ (f - lo) + 1 + x) % 2 ^ (f - lo)) / 2 ^ (f - lo) = key / 2 ^ (b - lo) ∧
    key / 2 ^ (b - f) - key / 2 ^ (b - f) % 2 ^ (f - lo) + (key / 2 ^ (b - f) % 2 ^ (f - lo) + 1 + x) % 2 ^ (f - lo) ≠ key / 2 ^ (b - f) := by
  have ew : key / 2 ^ (b - lo) = key / 2 ^ (b - f) / 2 ^ (f - lo) := by
    rw [Nat.div_div_eq_div_mul, ← Nat.pow_add]
    congr 2
    omega
  have eq1 : key / 2 ^ (b - lo) < 2 ^ lo := by
    refine Nat.div_lt_of_lt_mul ?_
    rw [← Nat.pow_add]
    rw [show b - lo + lo = b by omega]
    exact hk
  have ef : 2 ^ f = 2 ^ lo * 2 ^ (f - lo) := by
    rw [← Nat.pow_add]
    congr 1
    omega
  rw [ew] at eq1 ⊢
  have hw := Nat.two_pow_pos (f - lo)
  rw [ef]
  generalize 2 ^ (f - lo) = w at *
  generalize key / 2 ^ (b - f) = o at *
  have ho := Nat.div_add_mod o w
  have hr := Nat.mod_lt o hw
  generalize 2 ^ lo = p at *
  generalize o / w = q at *
  generalize hro : o % w = r at *
  have hs : (r + 1 + x) % w < w := Nat.mod_lt _ hw
  have hne : (r + 1 + x) % w ≠ r := by
    intro e
    by_cases hc : r + 1 + x < w
    · rw [Nat.mod_eq_of_lt hc] at e
      omega
    · rw [Nat.mod_eq_sub_mod (by omega), Nat.mod_eq_of_lt (by omega)] at e
      omega
  generalize (r + 1 + x) % w = s at *
  have e1 : o - r + s = s + w * q := by omega
  rw [e1]
  refine ⟨?_, ?_, by omega⟩
  · have h3 : w * (q + 1) ≤ w * p := Nat.mul_le_mul_left w eq1
    rw [Nat.mul_succ] at h3
    rw [Nat.mul_comm p w]
    omega
  · rw [Nat.add_mul_div_left _ _ hw, Nat.div_eq_of_lt hs, Nat.zero_add]
theorem leaf_num {b lo key x : Nat} (h1 : lo ≤ b) (hk : key < 2 ^ b) (hx : x < 2 ^ (b - lo)) :
    key - key % 2 ^ (b - lo) + x < 2 ^ b ∧ (key - key % 2 ^ (b - lo) + x) / 2 ^ (b - lo) = key / 2 ^ (b - lo) := by
  have eq1 : key / 2 ^ (b - lo) < 2 ^ lo := by
    refine Nat.div_lt_of_lt_mul ?_
    rw [← Nat.pow_add]
    rw [show b - lo + lo = b by omega]
    exact hk
  have ef : 2 ^ b = 2 ^ lo * 2 ^ (b - lo) := by
    rw [← Nat.pow_add]
    congr 1
    omega
  have hw := Nat.two_pow_pos (b - lo)
  rw [ef]
  generalize 2 ^ (b - lo) = w at *
  have ho := Nat.div_add_mod key w
  generalize 2 ^ lo = p at *
  generalize key / w = q at *
  have e1 : key - key % w + x = x + w * q := by omega
  rw [e1]
  refine ⟨?_, ?_⟩
  · have h3 : w * (q + 1) ≤ w * p := Nat.mul_le_mul_left w eq1
    rw [Nat.mul_succ] at h3
    rw [Nat.mul_comm p w]
    omega
  · rw [Nat.add_mul_div_left _ _ hw, Nat.div_eq_of_lt hx, Nat.zero_add]
/-- what a slip may end with, behind the place lo -/
inductive Ed (b key lo : Nat) : List D → Prop
  | bare : lo = 0 → Ed b key lo [.str "bare"]
  | leaf {k : Nat} {z : Str} : k < 2 ^ b → k / 2 ^ (b - lo) = key / 2 ^ (b - lo) → z.length ≤ 60 → (∀ c ∈ z.cps.toList, c < 128) → Ed b key lo [.str "leaf", .int (k : Int), .str z]
  | fork {f g : Nat} {m1 m2 : D} : lo < f → f < b → g < 2 ^ f → g / 2 ^ (f - lo) = key / 2 ^ (b - lo) → g ≠ key / 2 ^ (b - f) → Sz 61 m1 → Sz 61 m2 → Ed b key lo [.str "fork", .int (f : Int), .int (g : Int), m1, m2]
theorem pow_ge2 {n : Nat} (h : 0 < n) : 2 ≤ 2 ^ n := by
  have := Nat.pow_le_pow_right (n := 2) (by decide) h
  rw [Nat.pow_one] at this
  exact this
theorem r_end (c : Int) {b key lo : Nat} (h1 : lo ≤ b) (h2 : b ≤ 60) (hk : key < 2 ^ b) (T : Sto) : ∃ e, m__law_end [.int c, .int (b : Int), .int (key : Int), .int (lo : Int)] T = .ok (.tup e) T ∧ Ed b key lo e := by
  by_cases hb : c % 4 = 0 ∧ lo = 0
  · obtain ⟨q1, q2⟩ := hb
    subst q2
    exact ⟨[.str "bare"], by simp [m__law_end, b__law_end, q1], .bare rfl⟩
  have t1 : (sIf (mAnd (mTB (mBin fEq (mBin fMod (mVar 0) (mC (.int 4))) (mC (.int 0)))) (mTB (mBin fEq (mVar 3) (mC (.int 0))))) (sRet (mTup (mCons (mC (.str "bare")) (mNil)))) (sSkip)) [some (.int c), some (.int (b : Int)), some (.int (key : Int)), some (.int (lo : Int)), some (.int (c / 4)), none, none, none, none, none] T = .fl (.nx [some (.int c), some (.int (b : Int)), some (.int (key : Int)), some (.int (lo : Int)), some (.int (c / 4)), none, none, none, none, none]) T := by
    by_cases q1 : c % 4 = 0
    · have q2 : lo ≠ 0 := fun z => hb ⟨q1, z⟩
      have q3 : ¬ (lo : Int) = 0 := by omega
      simp [q1, q2, q3]
    · simp [q1]
  have t0 : (sAsg 4 (mBin fDiv (mVar 0) (mC (.int 4)))) [some (.int c), some (.int (b : Int)), some (.int (key : Int)), some (.int (lo : Int)), none, none, none, none, none, none] T = .fl (.nx [some (.int c), some (.int (b : Int)), some (.int (key : Int)), some (.int (lo : Int)), some (.int (c / 4)), none, none, none, none, none]) T := asg_of' (d := .int (c / 4)) (by simp)
  generalize hn : c / 4 = n at *
  have dn : ∀ {r : Ms} {d : D}, b__law_end = sSeq (sAsg 4 (mBin fDiv (mVar 0) (mC (.int 4)))) (sSeq (sIf (mAnd (mTB (mBin fEq (mBin fMod (mVar 0) (mC (.int 4))) (mC (.int 0)))) (mTB (mBin fEq (mVar 3) (mC (.int 0))))) (sRet (mTup (mCons (mC (.str "bare")) (mNil)))) (sSkip)) r) →
      r [some (.int c), some (.int (b : Int)), some (.int (key : Int)), some (.int (lo : Int)), some (.int n), none, none, none, none, none] T = .fl (.rt d) T → m__law_end [.int c, .int (b : Int), .int (key : Int), .int (lo : Int)] T = .ok d T := fun {r d} e h =>
    def_rt (ρ0 := [some (.int c), some (.int (b : Int)), some (.int (key : Int)), some (.int (lo : Int)), none, none, none, none, none, none]) (by rw [e]; exact seq_nx t0 (seq_nx t1 h))
  by_cases hf : c % 4 = 1 ∧ lo + 1 < b
  · obtain ⟨q1, q2⟩ := hf
    have hp : (0 : Int) < (b : Int) - 1 - (lo : Int) := by omega
    have hp2 : (lo : Int) < (b : Int) - 1 := by omega
    obtain ⟨f, ef, f1, f2⟩ : ∃ f : Nat, (lo : Int) + 1 + n % ((b : Int) - 1 - (lo : Int)) = (f : Int) ∧ lo < f ∧ f < b := by
      have m0 := Int.emod_nonneg n (show (b : Int) - 1 - (lo : Int) ≠ 0 by omega)
      have m1 := Int.emod_lt_of_pos n hp
      exact ⟨((lo : Int) + 1 + n % ((b : Int) - 1 - (lo : Int))).toNat, by omega, by omega, by omega⟩
    have hw2 := pow_ge2 (n := f - lo) (by omega)
    obtain ⟨x, ex, hx⟩ : ∃ x : Nat, n * 69621 % (((2 ^ (f - lo) : Nat) : Int) - 1) = (x : Int) ∧ x < 2 ^ (f - lo) - 1 := by
      have m0 := Int.emod_nonneg (n * 69621) (show ((2 ^ (f - lo) : Nat) : Int) - 1 ≠ 0 by omega)
      have m1 := Int.emod_lt_of_pos (n * 69621) (show (0 : Int) < ((2 ^ (f - lo) : Nat) : Int) - 1 by omega)
      exact ⟨(n * 69621 % (((2 ^ (f - lo) : Nat) : Int) - 1)).toNat, by omega, by omega⟩
    obtain ⟨g1, g2, g3⟩ := fork_num f1 f2 hk hx
    obtain ⟨m1, e1, z1⟩ := r_mark n T
    obtain ⟨m2, e2, z2⟩ := r_mark (n / 7 + 5) T
    have s0 : (0 : Int) ≤ (b : Int) - (f : Int) := by omega
    have s0' : (f : Int) ≤ (b : Int) := by omega
    have st : ((b : Int) - (f : Int)).toNat = b - f := by omega
    have s1 : (0 : Int) ≤ (f : Int) - (lo : Int) := by omega
    have s1' : (lo : Int) ≤ (f : Int) := by omega
    have s1b : (f : Int) - (lo : Int) ≤ 134217727 := by omega
    have su : ((f : Int) - (lo : Int)).toNat = f - lo := by omega
    have eo : (key : Int) / 2 ^ (b - f) = ((key / 2 ^ (b - f) : Nat) : Int) := by simp
    have ew : (2 : Int) ^ (f - lo) = ((2 ^ (f - lo) : Nat) : Int) := pow_int _
    have q2' : (lo : Int) + 1 < (b : Int) := by omega
    have c1 : cMul1 n 69621 = true := cMul1_r (by decide)
    have v6 : (sAsg 6 (mBin fAdd (mBin fAdd (mVar 3) (mC (.int 1))) (mBin fMod (mVar 4) (mBin fSub (mBin fSub (mVar 1) (mC (.int 1))) (mVar 3))))) [some (.int c), some (.int (b : Int)), some (.int (key : Int)), some (.int (lo : Int)), some (.int n), none, none, none, none, none] T = .fl (.nx [some (.int c), some (.int (b : Int)), some (.int (key : Int)), some (.int (lo : Int)), some (.int n), none, some (.int (f : Int)), none, none, none]) T := asg_of' (d := .int (f : Int)) (by rw [← ef]; simp [hp, hp2])
    have v7 : (sAsg 7 (mBin fShr (mVar 2) (mBin fSub (mVar 1) (mVar 6)))) [some (.int c), some (.int (b : Int)), some (.int (key : Int)), some (.int (lo : Int)), some (.int n), none, some (.int (f : Int)), none, none, none] T = .fl (.nx [some (.int c), some (.int (b : Int)), some (.int (key : Int)), some (.int (lo : Int)), some (.int n), none, some (.int (f : Int)), some (.int ((key / 2 ^ (b - f) : Nat) : Int)), none, none]) T := asg_of' (d := .int ((key / 2 ^ (b - f) : Nat) : Int)) (by rw [← eo]; simp [s0', st])
    have v8 : (sAsg 8 (mBin fShl (mC (.int 1)) (mBin fSub (mVar 6) (mVar 3)))) [some (.int c), some (.int (b : Int)), some (.int (key : Int)), some (.int (lo : Int)), some (.int n), none, some (.int (f : Int)), some (.int ((key / 2 ^ (b - f) : Nat) : Int)), none, none] T = .fl (.nx [some (.int c), some (.int (b : Int)), some (.int (key : Int)), some (.int (lo : Int)), some (.int n), none, some (.int (f : Int)), some (.int ((key / 2 ^ (b - f) : Nat) : Int)), some (.int ((2 ^ (f - lo) : Nat) : Int)), none]) T := asg_of' (d := .int ((2 ^ (f - lo) : Nat) : Int)) (by rw [← ew]; simp [s1', s1b, su])
    refine ⟨[.str "fork", .int (f : Int), .int ((key / 2 ^ (b - f) - key / 2 ^ (b - f) % 2 ^ (f - lo) + (key / 2 ^ (b - f) % 2 ^ (f - lo) + 1 + x) % 2 ^ (f - lo) : Nat) : Int), m1, m2], dn rfl (seq_rt (if_t (S1 := T) (by simp [q1, q2, q2']) (seq_nx v6 (seq_nx v7 (seq_nx v8 ?_))))), .fork f1 f2 g1 g2 g3 z1 z2⟩
    clear g1 g2 g3 eo ew v6 v7 v8
    generalize 2 ^ (f - lo) = w at *
    generalize key / 2 ^ (b - f) = o at *
    have hw0 : (0 : Int) < (w : Int) := by omega
    have hw0' : 0 < w := by omega
    have hw1 : (0 : Int) < (w : Int) - 1 := by omega
    have hw1' : (1 : Int) < (w : Int) := by omega
    have hw1n : 1 < w := by omega
    have em : (o : Int) % (w : Int) = ((o % w : Nat) : Int) := by simp
    have hle : o % w ≤ o := Nat.mod_le _ _
    have es : (((o % w : Nat) : Int) + 1 + (x : Int)) % (w : Int) = (((o % w + 1 + x) % w : Nat) : Int) := by simp
    have eg : (o : Int) - ((o % w : Nat) : Int) + (((o % w + 1 + x) % w : Nat) : Int) = ((o - o % w + (o % w + 1 + x) % w : Nat) : Int) := by omega
    rw [← eg, ← es, ← em]
    rw [← em] at es
    refine seq_nx (S' := T) (asg_of' (d := .int (((o : Int) % (w : Int) + 1 + (x : Int)) % (w : Int))) (by simp [hw0, hw0', c1, hw1, hw1', hw1n, ex])) ?_
    simp [hw0, hw0', e1, e2]
  have t2 : ∀ x, (sIf (mAnd (mTB (mBin fEq (mBin fMod (mVar 0) (mC (.int 4))) (mC (.int 1)))) (mTB (mBin fLt (mBin fAdd (mVar 3) (mC (.int 1))) (mVar 1)))) x (sSkip)) [some (.int c), some (.int (b : Int)), some (.int (key : Int)), some (.int (lo : Int)), some (.int n), none, none, none, none, none] T = .fl (.nx [some (.int c), some (.int (b : Int)), some (.int (key : Int)), some (.int (lo : Int)), some (.int n), none, none, none, none, none]) T := fun x => by
    by_cases q1 : c % 4 = 1
    · have q2 : ¬ lo + 1 < b := fun z => hf ⟨q1, z⟩
      have q3 : ¬ (lo : Int) + 1 < (b : Int) := by omega
      simp [q1, q2, q3]
    · simp [q1]
  have s0' : (lo : Int) ≤ (b : Int) := by omega
  have s1b : (b : Int) - (lo : Int) ≤ 134217727 := by omega
  have su : ((b : Int) - (lo : Int)).toNat = b - lo := by omega
  have ew : (2 : Int) ^ (b - lo) = ((2 ^ (b - lo) : Nat) : Int) := pow_int _
  have v5 : (sAsg 5 (mBin fShl (mC (.int 1)) (mBin fSub (mVar 1) (mVar 3)))) [some (.int c), some (.int (b : Int)), some (.int (key : Int)), some (.int (lo : Int)), some (.int n), none, none, none, none, none] T = .fl (.nx [some (.int c), some (.int (b : Int)), some (.int (key : Int)), some (.int (lo : Int)), some (.int n), some (.int ((2 ^ (b - lo) : Nat) : Int)), none, none, none, none]) T := asg_of' (d := .int ((2 ^ (b - lo) : Nat) : Int)) (by rw [← ew]; simp [s0', s1b, su])
  by_cases hl : c % 4 = 2
  · obtain ⟨z, ez, z1, z2⟩ := r_text n T
    exact ⟨[.str "leaf", .int (key : Int), .str z], dn rfl (seq_nx (t2 _) (seq_nx v5 (by simp [hl, ez]))), .leaf hk rfl z1 z2⟩
  · obtain ⟨z, ez, z1, z2⟩ := r_text (n / 3) T
    have hw := Nat.two_pow_pos (b - lo)
    obtain ⟨x, ex, hx⟩ : ∃ x : Nat, n * 982451653 % ((2 ^ (b - lo) : Nat) : Int) = (x : Int) ∧ x < 2 ^ (b - lo) := by
      have m0 := Int.emod_nonneg (n * 982451653) (show ((2 ^ (b - lo) : Nat) : Int) ≠ 0 by omega)
      have m1 := Int.emod_lt_of_pos (n * 982451653) (show (0 : Int) < ((2 ^ (b - lo) : Nat) : Int) by omega)
      exact ⟨(n * 982451653 % ((2 ^ (b - lo) : Nat) : Int)).toNat, by omega, by omega⟩
    obtain ⟨g1, g2⟩ := leaf_num h1 hk hx
    refine ⟨[.str "leaf", .int ((key - key % 2 ^ (b - lo) + x : Nat) : Int), .str z], dn rfl (seq_nx (t2 _) (seq_nx v5 ?_)), .leaf g1 g2 z1 z2⟩
    clear g1 g2 ew v5
    generalize 2 ^ (b - lo) = w at *
    have hw0 : (0 : Int) < (w : Int) := by omega
    have em : (key : Int) % (w : Int) = ((key % w : Nat) : Int) := by simp
    have hle : key % w ≤ key := Nat.mod_le _ _
    have eg : (key : Int) - ((key % w : Nat) : Int) + (x : Int) = ((key - key % w + x : Nat) : Int) := by omega
    have c1 : cMul1 n 982451653 = true := cMul1_r (by decide)
    rw [← eg, ← em]
    simp [hl, hw0, hw, ez, c1, ex]
/-! is_slip -/
/-! the terms that a slip opens -/
/-! alike -/
/-! what is no key, what is no slip -/
/-! the refusals -/
/-! junk -/
/-! the lists of junk -/
/-! the slip is let by -/
/-! refusals, all of them -/
section
variable {b key f n M : Nat} {kd bad slip : D} {Q : List D → Option D} {T S : Sto} {ms : List D}
end
section
variable {b key f n M : Nat} {kd bad slip : D} {Q : List D → Option D} {T S : Sto} {ms : List D}
end
/-! another mark -/
/-! the stampers, all four -/
/-! the law -/
section
variable {b key f n : Nat} {ss : Ss} {e : List D} {T S : Sto} {Q : List D → Option D} {pre : List (List D)} {last : List D} {came : D}
end

/-! what things are -/
/-- a thing whose kind is known -/
def Ty (S : Sto) : D → Prop
  | .ref n => (∃ q, S[n]? = some (.lst q)) ∨ ∃ q, S[n]? = some (.dk q)
  | .ty _ => False
  | .gl _ => False
  | _ => True
def wB : D → Bool
  | .int _ => true
  | _ => false
def sB : D → Bool
  | .str _ => true
  | .int n => decide (0 ≤ n) && decide (n < big)
  | _ => false
def kB (b : Nat) : D → Bool
  | .int n => decide (0 ≤ n) && decide (n < 2 ^ b)
  | _ => false
def vB : D → Bool
  | .str z => decide (z.length ≤ 60)
  | _ => false
def tB : D → Bool
  | .tup _ => true
  | _ => false
theorem g_tup {d : D} {S : Sto} (h : Ty S d) : fIsi [d, .ty "tuple"] S = some (.bl (tB d), S) := by
  cases d with
  | ref n => rcases h with ⟨q, h⟩ | ⟨q, h⟩ <;> simp [tB, h]
  | ty _ => exact h.elim
  | gl _ => exact h.elim
  | _ => simp [tB]
theorem g_whole {d : D} {S : Sto} (h : Ty S d) : m_is_whole [d] S = .ok (.bl (wB d)) S := by
  cases d with
  | ref n => rcases h with ⟨q, h⟩ | ⟨q, h⟩ <;> simp [m_is_whole, b_is_whole, wB, h]
  | ty _ => exact h.elim
  | gl _ => exact h.elim
  | _ => simp [m_is_whole, b_is_whole, wB]
theorem g_stamp {d : D} {S : Sto} (h : Ty S d) : m_is_stamp [d] S = .ok (.bl (sB d)) S := by
  cases d with
  | ref n => rcases h with ⟨q, h⟩ | ⟨q, h⟩ <;> simp [m_is_stamp, b_is_stamp, m_is_whole, b_is_whole, sB, h]
  | ty _ => exact h.elim
  | gl _ => exact h.elim
  | int n => by_cases h1 : 0 ≤ n <;> by_cases h2 : n < big <;> simp [m_is_stamp, b_is_stamp, m_is_whole, b_is_whole, sB, h1, h2]
  | _ => simp [m_is_stamp, b_is_stamp, m_is_whole, b_is_whole, sB]
theorem g_key {d : D} {S : Sto} {b : Nat} (hb : b ≤ 60) (h : Ty S d) : m_is_key [.int (b : Int), d] S = .ok (.bl (kB b d)) S := by
  have e := g_whole h
  have c1 : (b : Int) ≤ 134217727 := by omega
  cases d with
  | int n => by_cases h1 : 0 ≤ n <;> by_cases h2 : n < 2 ^ b <;> simp [m_is_key, b_is_key, e, wB, kB, h1, h2, c1]
  | _ => simp [m_is_key, b_is_key, e, wB, kB]
theorem g_value {d : D} {S : Sto} (h : Ty S d) (hz : ∀ z, d = .str z → z.length ≤ 1000) : m_is_value [d] S = .ok (.bl (vB d)) S := by
  cases d with
  | ref n => rcases h with ⟨q, h⟩ | ⟨q, h⟩ <;> simp [m_is_value, b_is_value, vB, h]
  | ty _ => exact h.elim
  | gl _ => exact h.elim
  | str z =>
    have c1 : z.length ≤ 16777216 := by have := hz z rfl; omega
    by_cases h1 : z.length ≤ 60
    · have : (z.length : Int) ≤ 60 := by omega
      simp [m_is_value, b_is_value, vB, c1, h1, this]
    · have : ¬ (z.length : Int) ≤ 60 := by omega
      simp [m_is_value, b_is_value, vB, c1, h1, this]
  | _ => simp [m_is_value, b_is_value, vB]
/-! steps -/
def Ty2 (S : Sto) (d : D) : Prop := Ty S d ∧ ∀ x y, d = .tup [x, y] → Ty S x ∧ Ty S y
def stB (b : Nat) (lo : Int) : List D → Bool
  | [] => true
  | .tup [.int d, m] :: r => decide (lo < d) && decide (d < b) && sB m && stB b d r
  | _ => false
theorem g_steps {S : Sto} {b : Nat} {ss : List D} (hs : ∀ s ∈ ss, Ty2 S s) : m_are_steps [.int (b : Int), .tup ss] S = .ok (.bl (stB b (-1) ss)) S := by
  have w : We (m_are_steps [.int (b : Int), .tup ss] S) (fun d S' => d = .bl (stB b (-1) ss) ∧ S' = S) fun _ _ => False := by
    unfold m_are_steps
    refine we_def ?_
    unfold b_are_steps
    simp -dsimp
    refine wp_for (fun i ρ S' => S' = S ∧ ∃ (lo : Int) (o3 o4 o5 : Option D), ρ = [some (.int (b : Int)), some (.tup ss), some (.int lo), o3, o4, o5] ∧ stB b (-1) ss = stB b lo (ss.drop i)) ⟨rfl, -1, none, none, none, rfl, by simp⟩ ?_ (fun _ _ _ => rfl) ?_
    · rintro i ρ S' hi ⟨rfl, lo, o3, o4, o5, rfl, hb⟩
      have hi' : i < ss.length := hi
      have y := hs ss[i] (List.getElem_mem hi')
      refine ⟨ss[i], List.getElem?_eq_getElem hi', _, rfl, ?_⟩
      rw [List.drop_eq_getElem_cons hi'] at hb
      generalize ss[i] = s at *
      obtain ⟨y1, y2⟩ := y
      have e1 := g_tup y1
      unfold l1_are_steps
      by_cases c : ∃ x m, s = .tup [x, m]
      · obtain ⟨x, m, rfl⟩ := c
        obtain ⟨yx, ym⟩ := y2 x m rfl
        have ex := g_whole yx
        have em := g_stamp ym
        cases x with
        | int d =>
          by_cases c1 : lo < d
          · by_cases c2 : d < (b : Int)
            · cases c3 : sB m with
              | true =>
                rw [c3] at em
                simp -dsimp [ex, em, wB, c1, c2]
                rw [hb]
                simp [stB, c1, c2, c3]
              | false =>
                rw [c3] at em
                simp -dsimp [ex, em, wB, c1, c2]
                rw [hb]
                simp [stB, c1, c2, c3]
            · simp -dsimp [ex, wB, c1, c2]
              rw [hb]
              simp [stB, c1, c2]
          · simp -dsimp [ex, wB, c1]
            rw [hb]
            simp [stB, c1]
        | _ =>
          simp -dsimp [ex, wB]
          rw [hb]
          simp [stB]
      · have hf : stB b lo (s :: ss.drop (i + 1)) = false := by
          unfold stB
          split
          · rename_i h; cases h
          · rename_i h; cases h; exact (c ⟨_, _, rfl⟩).elim
          · rfl
        cases s with
        | tup q =>
          have hq : q.length ≠ 2 := by
            intro z
            match q, z with
            | [x, m], _ => exact c ⟨x, m, rfl⟩
          have hq2 : ¬ (q.length : Int) = 2 := by omega
          simp -dsimp [hq2]
          rw [hb, hf]
        | _ =>
          simp -dsimp [e1, tB]
          rw [hb, hf]
    · rintro ρ S' ⟨rfl, lo, o3, o4, o5, rfl, hb⟩
      simp -dsimp
      rw [hb]
      show stB b lo (ss.drop ss.length) = true
      rw [List.drop_length]
      rfl
  obtain ⟨d, S', e, rfl, rfl⟩ := w.ok
  exact e

/-! ends -/
def isLit (d : D) (s : Str) : Bool := match d with
  | .str z => decide (z = s)
  | _ => false
theorem g_lit {S : Sto} {d : D} {p : PyData} (h : Rp S d p) (sp : SeqAt.shaped p = true) (s : Str) (hs : PyData.strOk s = true) : eqD S d (.str s) = some (isLit d s) := by
  have ss : SeqAt.shaped (.str s) = true := by
    unfold SeqAt.shaped
    rw [PyData.canLay0, PyData.depth, hs]
    rfl
  cases h with
  | non => rfl
  | bl b => rfl
  | int i => rfl
  | str z => exact eqD_str
  | tup h => rw [eqD_rp rfl (.tup h) (.str s) sp ss]; simp [isLit, PyData.eqv]
  | ref h1 h => rw [eqD_rp rfl (.ref h1 h) (.str s) sp ss]; simp [isLit, PyData.eqv]
def leafB (b key lo : Nat) : List D → Bool
  | [_, .int k, z] => kB b (.int k) && vB z && decide (k / 2 ^ (b - lo) = ((key / 2 ^ (b - lo) : Nat) : Int))
  | _ => false
def forkB (b key lo : Nat) : List D → Bool
  | [_, .int f, .int g, m1, m2] => decide ((lo : Int) < f) && decide (f < b) && decide (0 ≤ g) && decide (g < 2 ^ f.toNat) && sB m1 && sB m2 && decide (g / 2 ^ (f.toNat - lo) = ((key / 2 ^ (b - lo) : Nat) : Int)) && decide (g ≠ ((key / 2 ^ (b - f.toNat) : Nat) : Int))
  | _ => false
theorem leafB_eq {b key lo : Nat} {a z : D} {k : Int} : leafB b key lo [a, .int k, z] = (kB b (.int k) && vB z && decide (k / 2 ^ (b - lo) = ((key / 2 ^ (b - lo) : Nat) : Int))) := rfl
theorem forkB_eq {b key lo : Nat} {a m1 m2 : D} {f g : Int} : forkB b key lo [a, .int f, .int g, m1, m2] = (decide ((lo : Int) < f) && decide (f < b) && decide (0 ≤ g) && decide (g < 2 ^ f.toNat) && sB m1 && sB m2 && decide (g / 2 ^ (f.toNat - lo) = ((key / 2 ^ (b - lo) : Nat) : Int)) && decide (g ≠ ((key / 2 ^ (b - f.toNat) : Nat) : Int))) := rfl
def shortB (es : List D) : Prop := ∀ z, D.str z ∈ es → z.length ≤ 1000
theorem g_leaf {S : Sto} {b key lo : Nat} (hb : b ≤ 60) (hl : lo ≤ b) {es : List D} (ht : ∀ d ∈ es, Ty S d) (hz : shortB es) : m_is_leaf_end [.int (b : Int), .int (key : Int), .int (lo : Int), .tup es] S = .ok (.bl (leafB b key lo es)) S := by
  by_cases h3 : ∃ a k z, es = [a, k, z]
  · obtain ⟨a, k, z, rfl⟩ := h3
    have a1 : atI [a, k, z] 1 = some k := rfl
    have a2 : atI [a, k, z] 2 = some z := rfl
    have k1 := g_key hb (ht k (by simp))
    have k2 := g_value (S := S) (ht z (by simp)) fun y hy => hz y (by rw [hy]; simp)
    have k4 := r_start b key lo hl S
    cases k with
    | int n =>
      cases c : kB b (.int n) with
      | false =>
        rw [c] at k1
        simp [m_is_leaf_end, b_is_leaf_end, a1, a2, k1, leafB, c]
      | true =>
        rw [c] at k1
        unfold kB at c
        simp only [Bool.and_eq_true, decide_eq_true_eq] at c
        obtain ⟨n, rfl⟩ := Int.eq_ofNat_of_zero_le c.1
        have k3 := r_start b n lo hl S
        have e3 : ((n : Int) / 2 ^ (b - lo)) = ((n / 2 ^ (b - lo) : Nat) : Int) := by simp
        have cc : kB b (.int (n : Int)) = true := by unfold kB; simp [c.1, c.2]
        cases v : vB z with
        | false =>
          rw [v] at k2
          simp [m_is_leaf_end, b_is_leaf_end, a1, a2, k1, k2, leafB, v]
        | true =>
          rw [v] at k2
          rw [leafB_eq, e3, cc, v]
          generalize ((key / 2 ^ (b - lo) : Nat) : Int) = Q at *
          generalize ((n / 2 ^ (b - lo) : Nat) : Int) = Q2 at *
          simp [m_is_leaf_end, b_is_leaf_end, a1, a2, k1, k2, k3, k4]
    | _ => simp [m_is_leaf_end, b_is_leaf_end, a1, a2, k1, kB, leafB]
  · have hq : ¬ (es.length : Int) = 3 := by
      intro z
      have z' : es.length = 3 := by omega
      match es, z' with
      | [x, y, w], _ => exact h3 ⟨x, y, w, rfl⟩
    have hf : leafB b key lo es = false := by
      unfold leafB
      split
      · exact (h3 ⟨_, _, _, rfl⟩).elim
      · rfl
    rw [hf]
    simp [m_is_leaf_end, b_is_leaf_end, hq]
theorem g_fork {S : Sto} {b key lo : Nat} (hb : b ≤ 60) (hl : lo ≤ b) {es : List D} (ht : ∀ d ∈ es, Ty S d) : m_is_fork_end [.int (b : Int), .int (key : Int), .int (lo : Int), .tup es] S = .ok (.bl (forkB b key lo es)) S := by
  by_cases h3 : ∃ a f g m1 m2, es = [a, f, g, m1, m2]
  · obtain ⟨a, f, g, m1, m2, rfl⟩ := h3
    have a1 : atI [a, f, g, m1, m2] 1 = some f := rfl
    have a2 : atI [a, f, g, m1, m2] 2 = some g := rfl
    have a3 : atI [a, f, g, m1, m2] 3 = some m1 := rfl
    have a4 : atI [a, f, g, m1, m2] 4 = some m2 := rfl
    have k1 := g_whole (S := S) (ht f (by simp))
    have k2 := g_whole (S := S) (ht g (by simp))
    have s1 := g_stamp (S := S) (ht m1 (by simp))
    have s2 := g_stamp (S := S) (ht m2 (by simp))
    have k4 := r_start b key lo hl S
    cases f with
    | int f =>
      cases g with
      | int g =>
        by_cases c1 : (lo : Int) < f
        · by_cases c2 : f < (b : Int)
          · obtain ⟨f, rfl⟩ := Int.eq_ofNat_of_zero_le (show 0 ≤ f by omega)
            have c3 : (f : Int) ≤ 134217727 := by omega
            have c5 : (lo : Int) ≤ (f : Int) := by omega
            have c6 : ((f : Int) - (lo : Int)).toNat = f - lo := by omega
            have k5 := r_start b key f (by omega) S
            have ft : ((f : Int)).toNat = f := rfl
            rw [forkB_eq, ft]
            by_cases g1 : 0 ≤ g
            · by_cases g2 : g < 2 ^ f
              · cases v1 : sB m1 with
                | true =>
                  cases v2 : sB m2 with
                  | true =>
                    rw [v1] at s1
                    rw [v2] at s2
                    generalize ((key / 2 ^ (b - lo) : Nat) : Int) = Q at *
                    generalize ((key / 2 ^ (b - f) : Nat) : Int) = Q2 at *
                    by_cases g3 : g / 2 ^ (f - lo) = Q
                    · simp [m_is_fork_end, b_is_fork_end, a1, a2, a3, a4, k1, k2, wB, s1, s2, k4, k5, c1, c2, c3, c5, c6, g1, g2, g3]
                    · simp [m_is_fork_end, b_is_fork_end, a1, a2, a3, a4, k1, k2, wB, s1, s2, k4, k5, c1, c2, c3, c5, c6, g1, g2, g3]
                  | false =>
                    rw [v1] at s1
                    rw [v2] at s2
                    simp [m_is_fork_end, b_is_fork_end, a1, a2, a3, a4, k1, k2, wB, s1, s2, c1, c2, c3, g1, g2]
                | false =>
                  rw [v1] at s1
                  simp [m_is_fork_end, b_is_fork_end, a1, a2, a3, a4, k1, k2, wB, s1, c1, c2, c3, g1, g2]
              · simp [m_is_fork_end, b_is_fork_end, a1, a2, k1, k2, wB, c1, c2, c3, g1, g2]
            · simp [m_is_fork_end, b_is_fork_end, a1, a2, k1, k2, wB, c1, c2, c3, g1]
          · simp [m_is_fork_end, b_is_fork_end, a1, a2, k1, k2, wB, c1, c2, forkB]
        · simp [m_is_fork_end, b_is_fork_end, a1, a2, k1, k2, wB, c1, forkB]
      | _ => simp [m_is_fork_end, b_is_fork_end, a1, a2, k1, k2, wB, forkB]
    | _ => simp [m_is_fork_end, b_is_fork_end, a1, k1, wB, forkB]
  · have hq : ¬ (es.length : Int) = 5 := by
      intro z
      have z' : es.length = 5 := by omega
      match es, z' with
      | [x, y, w, u, v], _ => exact h3 ⟨x, y, w, u, v, rfl⟩
    have hf : forkB b key lo es = false := by
      unfold forkB
      split
      · exact (h3 ⟨_, _, _, _, _, rfl⟩).elim
      · rfl
    rw [hf]
    simp [m_is_fork_end, b_is_fork_end, hq]

/-! a slip's form, its steps good -/
structure Te (S : Sto) (es : List D) : Prop where
  ty : ∀ d ∈ es, Ty S d
  sh : shortB es
  py : ∃ ps, Rps S es ps ∧ SeqAt.shaped (.tuple ps) = true
theorem Te.hd {S : Sto} {d : D} {es : List D} (h : Te S (d :: es)) : ∃ p, Rp S d p ∧ SeqAt.shaped p = true := by
  obtain ⟨ps, h1, h2⟩ := h.py
  cases h1 with
  | @cons _ p _ ps h1 h3 =>
    refine ⟨p, h1, ?_⟩
    unfold SeqAt.shaped at *
    rw [PyData.canLay0, PyData.canLayAll0, PyData.depth, PyData.depthAll] at h2
    simp only [Bool.and_eq_true, decide_eq_true_eq] at h2 ⊢
    exact ⟨h2.1.1, by omega⟩
def endB (b key lo : Nat) (nost : Bool) : List D → Bool
  | [] => false
  | e :: es => if isLit e "leaf" = true then leafB b key lo (e :: es) else if isLit e "fork" = true then forkB b key lo (e :: es) else nost && (es.isEmpty && isLit e "bare")
theorem shaped_nil : SeqAt.shaped (.tuple []) = true := by decide +kernel
theorem Te.nil {S : Sto} {es : List D} (h : Te S es) : eqD S (.tup es) (.tup []) = some (es.isEmpty) := by
  obtain ⟨ps, h1, h2⟩ := h.py
  rw [eqD_rp rfl (.tup h1) (.tup .nil) h2 shaped_nil]
  cases h1 with
  | nil => simp [PyData.eqv, PyData.eqvAll]
  | cons _ _ => simp [PyData.eqv, PyData.eqvAll]
theorem Te.bare {S : Sto} {e : D} {es : List D} (h : Te S (e :: es)) : eqD S (.tup (e :: es)) (.tup [.str "bare"]) = some (es.isEmpty && isLit e "bare") := by
  obtain ⟨ps, h1, h2⟩ := h.py
  rw [eqD_rp rfl (.tup h1) (.tup (.cons (.str "bare") .nil)) h2 (by decide +kernel)]
  cases h1 with
  | @cons _ p _ ps h1 h3 =>
    have : PyData.eqv p (.str "bare") = isLit e "bare" := by
      cases h1 <;> first | (simp [PyData.eqv, isLit]; done) | (rw [PyData.eqv, Bool.eq_iff_iff]; simp [isLit])
    rw [PyData.eqv, PyData.eqvAll, this]
    cases h3 with
    | nil => simp [PyData.eqvAll]
    | cons _ _ => simp [PyData.eqvAll]
theorem Stps.ty {S : Sto} {b : Nat} : ∀ {lo : Nat} {ss : Ss}, Stps b lo ss → (∀ s ∈ stD ss, Ty2 S s) ∧ ∀ l : Int, l < lo → stB b l (stD ss) = true := by
  intro lo ss
  induction ss generalizing lo with
  | nil => exact fun _ => ⟨fun s hs => (by cases hs), fun _ _ => rfl⟩
  | cons p ss ih =>
    obtain ⟨d, m⟩ := p
    rintro ⟨h1, h2, h3, h4⟩
    obtain ⟨i1, i2⟩ := ih h4
    have hm : Ty S m ∧ sB m = true := by
      rcases h3 with ⟨n, rfl, h5, h6⟩ | ⟨z, rfl, h5, h6⟩
      · exact ⟨trivial, by simp [sB, h5, h6]⟩
      · exact ⟨trivial, rfl⟩
    refine ⟨fun s hs => ?_, fun l hl => ?_⟩
    · rcases List.mem_cons.mp hs with rfl | hs
      · exact ⟨trivial, fun x y e => by cases e; exact ⟨trivial, hm.1⟩⟩
      · exact i1 s hs
    · show stB b l (.tup [.int (d : Int), m] :: stD ss) = true
      unfold stB
      rw [i2 d (by omega), hm.2]
      have c1 : l < (d : Int) := by omega
      have c2 : (d : Int) < (b : Int) := by omega
      simp [c1, c2]
theorem st_nil {ss : Ss} : (stD ss).isEmpty = decide (ss = []) := by cases ss <;> simp [stD]
def endD (b key lo : Nat) (nost : Bool) : D → Bool
  | .tup es => endB b key lo nost es
  | _ => false
/-- the answer for a thing of two parts, the first one good steps -/
theorem g_slip {S : Sto} {b key : Nat} {ss : Ss} {E : D} (hb : b ≤ 60) (h : Stps b 0 ss) (hE : Ty S E) (he : ∀ es, E = .tup es → Te S es) :
    m_is_slip [.int (b : Int), .int (key : Int), .tup [.tup (stD ss), E]] S = .ok (.bl (endD b key (plc 0 ss) (decide (ss = [])) E)) S := by
  obtain ⟨y1, y2⟩ := Stps.ty (S := S) h
  have e1 := g_steps (S := S) (b := b) y1
  rw [y2 (-1) (by omega)] at e1
  have e2 := r_endd h S
  have pl := (plc_le h (Nat.zero_le b)).1
  have eqs := eq_steps (S := S) h
  have t1 := g_tup hE
  clear y1 y2
  cases E with
  | tup es =>
    have te := he es rfl
    have en := te.nil
    cases es with
    | nil =>
      simp only [List.isEmpty_nil] at en
      generalize stD ss = L at *
      simp [m_is_slip, b_is_slip, e1, en, endB, endD]
    | cons e es =>
      simp only [List.isEmpty_cons] at en
      obtain ⟨p, q1, q2⟩ := te.hd
      have l1 := g_lit q1 q2 "leaf" (by decide +kernel)
      have l2 := g_lit q1 q2 "fork" (by decide +kernel)
      have l3 := te.bare
      have r1 := g_leaf (key := key) hb pl te.ty te.sh
      have r2 := g_fork (key := key) hb pl te.ty
      have a0 : atI (e :: es) 0 = some e := by
        rw [atI_at (by decide) (by simp)]
        rfl
      rw [show endD b key (plc 0 ss) (decide (ss = [])) (.tup (e :: es)) = (if isLit e "leaf" = true then leafB b key (plc 0 ss) (e :: es) else if isLit e "fork" = true then forkB b key (plc 0 ss) (e :: es) else decide (ss = []) && (es.isEmpty && isLit e "bare")) from rfl]
      generalize leafB b key (plc 0 ss) (e :: es) = B1 at *
      generalize forkB b key (plc 0 ss) (e :: es) = B2 at *
      generalize (es.isEmpty && isLit e "bare") = B3 at *
      generalize isLit e "leaf" = c1 at *
      generalize isLit e "fork" = c2 at *
      generalize decide (ss = []) = c3 at *
      generalize stD ss = L at *
      cases c1 with
      | true => simp [m_is_slip, b_is_slip, e1, en, a0, l1, e2, r1]
      | false =>
        cases c2 with
        | true => simp [m_is_slip, b_is_slip, e1, en, a0, l1, l2, e2, r2]
        | false => cases c3 <;> cases B3 <;> simp [m_is_slip, b_is_slip, e1, en, a0, l1, l2, eqs, l3]
  | ref n =>
    generalize stD ss = L at *
    rcases hE with ⟨q, hE⟩ | ⟨q, hE⟩ <;> simp [m_is_slip, b_is_slip, e1, hE, endD]
  | ty _ => exact hE.elim
  | gl _ => exact hE.elim
  | _ =>
    generalize stD ss = L at *
    simp [m_is_slip, b_is_slip, e1, endD]
/-- .. the first one no good steps -/
theorem g_slip_st {S : Sto} {b key : Nat} {ss : List D} {E : D} (y : ∀ s ∈ ss, Ty2 S s) (h : stB b (-1) ss = false) : m_is_slip [.int (b : Int), .int (key : Int), .tup [.tup ss, E]] S = .ok (.bl false) S := by
  have e1 := g_steps (S := S) (b := b) y
  rw [h] at e1
  simp [m_is_slip, b_is_slip, e1]
theorem g_slip_nt {S : Sto} {b key : Nat} {T E : D} (y : Ty S T) (h : tB T = false) : m_is_slip [.int (b : Int), .int (key : Int), .tup [T, E]] S = .ok (.bl false) S := by
  have e1 : m_are_steps [.int (b : Int), T] S = .ok (.bl false) S := by
    cases T with
    | ref n => rcases y with ⟨q, y⟩ | ⟨q, y⟩ <;> simp [m_are_steps, b_are_steps, y]
    | ty _ => exact y.elim
    | gl _ => exact y.elim
    | tup _ => cases h
    | _ => simp [m_are_steps, b_are_steps]
  simp [m_is_slip, b_is_slip, e1]
theorem g_slip_no {S : Sto} {b key : Nat} {T : D} (y : Ty S T) (h : ∀ x z, T ≠ .tup [x, z]) : m_is_slip [.int (b : Int), .int (key : Int), T] S = .ok (.bl false) S := by
  cases T with
  | tup es =>
    have hq : ¬ (es.length : Int) = 2 := by
      intro z
      have z' : es.length = 2 := by omega
      match es, z' with
      | [x, y], _ => exact h x y rfl
    simp [m_is_slip, b_is_slip, hq]
  | ref n => rcases y with ⟨q, y⟩ | ⟨q, y⟩ <;> simp [m_is_slip, b_is_slip, y]
  | ty _ => exact y.elim
  | gl _ => exact y.elim
  | _ => simp [m_is_slip, b_is_slip]

/-! things of which texts and tuples are made -/
def Q (S : Sto) (d : D) : Prop := Ty S d ∧ (∀ z, d = .str z → z.length ≤ 1000) ∧ ∃ p, Rp S d p ∧ PyData.canLay0 p = true ∧ p.depth ≤ 62
theorem Q.more {S G : Sto} {d : D} (h : Q S d) : Q (S ++ G) d := by
  obtain ⟨h1, h2, p, h3, h4, h5⟩ := h
  refine ⟨?_, h2, p, h3.more, h4, h5⟩
  cases d with
  | ref n => exact h1.imp (fun ⟨q, h⟩ => ⟨q, at_more h⟩) fun ⟨q, h⟩ => ⟨q, at_more h⟩
  | ty _ => exact h1.elim
  | gl _ => exact h1.elim
  | _ => trivial
theorem q_all {S : Sto} : ∀ {ds : List D}, (∀ d ∈ ds, Q S d) → ∃ ps, Rps S ds ps ∧ PyData.canLayAll0 ps = true ∧ PyData.depthAll ps ≤ 62
  | [], _ => ⟨[], .nil, by simp [PyData.canLayAll0], by simp [PyData.depthAll]⟩
  | d :: ds, h => by
    obtain ⟨_, _, p, h3, h4, h5⟩ := h d (List.mem_cons_self ..)
    obtain ⟨ps, i1, i2, i3⟩ := q_all (ds := ds) fun x hx => h x (List.mem_cons_of_mem _ hx)
    exact ⟨p :: ps, .cons h3 i1, by rw [PyData.canLayAll0, h4, i2]; rfl, by rw [PyData.depthAll]; omega⟩
theorem Te.of {S : Sto} {es : List D} (h : ∀ d ∈ es, Q S d) : Te S es := by
  obtain ⟨ps, i1, i2, i3⟩ := q_all h
  refine ⟨fun d hd => (h d hd).1, fun z hz => (h _ hz).2.1 z rfl, ps, i1, ?_⟩
  unfold SeqAt.shaped
  rw [PyData.canLay0, PyData.depth, i2]
  simp
  omega
theorem q_non {S : Sto} : Q S .non := ⟨trivial, nofun, _, .non, by simp [PyData.canLay0], by simp [PyData.depth]⟩
theorem q_bl {S : Sto} {b : Bool} : Q S (.bl b) := ⟨trivial, nofun, _, .bl b, by simp [PyData.canLay0], by simp [PyData.depth]⟩
theorem q_int {S : Sto} {i : Int} : Q S (.int i) := ⟨trivial, nofun, _, .int i, by simp [PyData.canLay0], by simp [PyData.depth]⟩
theorem q_str {S : Sto} {z : Str} (h1 : z.length ≤ 1000) (h2 : PyData.strOk z = true) : Q S (.str z) := ⟨trivial, fun y e => by cases e; exact h1, _, .str z, by rw [PyData.canLay0]; exact h2, by simp [PyData.depth]⟩
theorem q_lit {S : Sto} {z : Str} (h : (decide (z.length ≤ 1000) && PyData.strOk z) = true) : Q S (.str z) := by
  simp only [Bool.and_eq_true, decide_eq_true_eq] at h
  exact q_str h.1 h.2
/-- a tuple of such things -/
theorem q_tup {S : Sto} {es : List D} (h : ∀ d ∈ es, Q S d ∧ ∃ p, Rp S d p ∧ PyData.canLay0 p = true ∧ p.depth ≤ 61) : Q S (.tup es) := by
  have : ∃ ps, Rps S es ps ∧ PyData.canLayAll0 ps = true ∧ PyData.depthAll ps ≤ 61 := by
    induction es with
    | nil => exact ⟨[], .nil, by simp [PyData.canLayAll0], by simp [PyData.depthAll]⟩
    | cons d ds ih =>
      obtain ⟨_, p, h3, h4, h5⟩ := h d (List.mem_cons_self ..)
      obtain ⟨ps, i1, i2, i3⟩ := ih fun x hx => h x (List.mem_cons_of_mem _ hx)
      exact ⟨p :: ps, .cons h3 i1, by rw [PyData.canLayAll0, h4, i2]; rfl, by rw [PyData.depthAll]; omega⟩
  obtain ⟨ps, i1, i2, i3⟩ := this
  exact ⟨trivial, nofun, _, .tup i1, by rw [PyData.canLay0, i2], by rw [PyData.depth]; omega⟩
def DeepI (S : Sto) (p : PyData) (i : Nat) (e : D) (S' : Sto) : Prop := ∃ G, S' = S ++ G ∧ (∃ x, Rp S' e x ∧ PyData.canLay0 x = true ∧ x.depth = i + p.depth) ∧ (0 < i → ∃ k q, e = .ref k ∧ S'[k]? = some (.lst q))
theorem DeepI.next {S S' : Sto} {p : PyData} {i : Nat} {e : D} (h : DeepI S p i e S') : DeepI S p (i + 1) (.ref S'.length) (S' ++ [.lst [e]]) := by
  obtain ⟨G, rfl, ⟨x, hr, hx1, hx2⟩, _⟩ := h
  have hn : (S ++ G ++ [Ob.lst [e]])[(S ++ G).length]? = some (.lst [e]) := by simp
  refine ⟨G ++ [.lst [e]], by simp, ⟨.list [x], .ref (lst_of hn) (.cons hr.more .nil), by rw [PyData.canLay0, PyData.canLayAll0, hx1, PyData.canLayAll0]; rfl, by rw [PyData.depth, PyData.depthAll, PyData.depthAll, hx2]; omega⟩, fun _ => ⟨_, _, rfl, hn⟩⟩
theorem r_deep {S : Sto} {d : D} {p : PyData} (h : Rp S d p) (h2 : PyData.canLay0 p = true) (h3 : p.depth ≤ 1) : ∃ (k : Nat) (G : Sto), m__law_deep [d] S = .ok (.ref k) (S ++ G) ∧ Q (S ++ G) (.ref k) ∧ (∃ q, (S ++ G)[k]? = some (.lst q)) ∧ ∃ x, Rp (S ++ G) (.ref k) x ∧ PyData.canLay0 x = true ∧ x.depth ≤ 61 := by
  have w : We (m__law_deep [d] S) (DeepI S p 60) fun _ _ => False := by
    unfold m__law_deep
    refine we_def ?_
    unfold b__law_deep
    obtain ⟨n, hn, e60⟩ : ∃ n : Nat, n = 60 ∧ D.int 60 = D.int (n : Int) := ⟨60, rfl, rfl⟩
    rw [e60, ← hn]
    have hs : small62 (n : Int) = true := small62_is (by omega)
    simp -dsimp [hs]
    refine wp_for (fun i ρ S' => ∃ e o, ρ = [some e, o] ∧ DeepI S p i e S') ⟨d, none, rfl, [], by simp, ⟨p, h, h2, by omega⟩, fun z => (by omega)⟩ ?_ (fun _ _ _ => rfl) ?_
    · rintro i ρ S' hi ⟨e, o, rfl, hd⟩
      refine ⟨.int (i : Int), by show some (D.int (0 + (i : Int))) = _; rw [Int.zero_add], _, rfl, ?_⟩
      unfold l1__law_deep
      simp -dsimp
      exact hd.next
    · rintro ρ S' ⟨e, o, rfl, hd⟩
      simp -dsimp
      exact hd
  obtain ⟨e, S', h1, G, rfl, ⟨x, hr, hx1, hx2⟩, hk⟩ := w.ok
  obtain ⟨k, q, rfl, hq⟩ := hk (by decide)
  exact ⟨k, G, h1, ⟨.inl ⟨q, hq⟩, nofun, x, hr, hx1, by omega⟩, ⟨q, hq⟩, x, hr, hx1, by omega⟩

/-! lists of things, one more at a time -/
def AccL (P : Sto → D → Prop) (S : Sto) (n L : Nat) : Prop := ∃ xs, S[L]? = some (.lst xs) ∧ xs.length = n ∧ ∀ x ∈ xs, P S x
def AccX (P : Sto → D → Prop) (S0 S : Sto) (n L : Nat) : Prop := (∃ G, S = S0 ++ G) ∧ AccL P S n L
def AllP (P : Sto → D → Prop) (S S1 : Sto) (ds : List D) (n : Nat) : Prop := ∃ G, S1 = S ++ G ∧ (∀ x ∈ ds, P S1 x) ∧ ds.length = n
section
variable {P : Sto → D → Prop} {k n m L : Nat} {ρ : Env'} {S S0 : Sto} {items : Ma} {N : Env' → Sto → Prop} {R0 : D → Sto → Prop} {X : Exn → Env' → Sto → Prop}
theorem AccL.more (mono : ∀ S G x, P S x → P (S ++ G) x) {G : Sto} (a : AccL P S n L) : AccL P (S ++ G) n L := by
  obtain ⟨xs, h1, h2, h3⟩ := a
  exact ⟨xs, at_more h1, h2, fun x hx => mono _ _ _ (h3 x hx)⟩
theorem wp_acc0 (mono : ∀ S G x, P S x → P (S ++ G) x) (h : We (items ρ S) (fun ds S1 => AllP P S S1 ds n) fun _ _ => False) (hn : n ≤ 1000) (f : ∀ L S', AccX P S S' n L → N (ρ.set k (some (.ref L))) S') : Wp (sAsg k (mLst items) ρ S) N R0 X := by
  obtain ⟨ds, S1, e, G, rfl, h1, h2⟩ := h.ok
  have hl : ds.length ≤ 16777216 := by omega
  have e2 : mLst items ρ S = .ok (.ref (S ++ G).length) (S ++ (G ++ [.lst ds])) := by
    unfold mLst
    rw [e]
    simp [R.bind, newL]
    exact hl
  rw [wp_asg, e2]
  refine f _ _ ⟨⟨_, rfl⟩, ds, ?_, h2, fun x hx => ?_⟩
  · rw [← List.append_assoc]
    simp
  · rw [← List.append_assoc]
    exact mono _ _ _ (h1 x hx)
theorem wp_acc (mono : ∀ S G x, P S x → P (S ++ G) x) (a : AccX P S0 S m L) (hρ : mVar k ρ S = .ok (.ref L) S) (h : We (items ρ S) (fun ds S1 => AllP P S S1 ds n) fun _ _ => False) (hn : m + n ≤ 1000) (f : ∀ L S', AccX P S0 S' (m + n) L → N (ρ.set k (some (.ref L))) S') : Wp (sAsg k (mBin fAdd (mVar k) (mLst items)) ρ S) N R0 X := by
  obtain ⟨ds, S1, e, G, rfl, h1, h2⟩ := h.ok
  obtain ⟨⟨G0, g0⟩, xs, a1, a2, a3⟩ := a
  have hl : ds.length ≤ 16777216 := by omega
  have e2 : mLst items ρ S = .ok (.ref (S ++ G).length) (S ++ G ++ [.lst ds]) := by
    unfold mLst
    rw [e]
    simp [R.bind, newL]
    exact hl
  have b1 : (S ++ G ++ [Ob.lst ds])[L]? = some (.lst xs) := at_more (at_more a1)
  have b2 : (S ++ G ++ [Ob.lst ds])[(S ++ G).length]? = some (.lst ds) := by simp
  have e3 : fAdd (.ref L) (.ref (S ++ G).length) (S ++ G ++ [.lst ds]) = some (.ref (S ++ G ++ [Ob.lst ds]).length, S ++ G ++ [.lst ds] ++ [.lst (xs ++ ds)]) := by
    unfold fAdd
    dsimp only
    rw [b1, b2]
    have : xs.length + ds.length ≤ sizeLine := by show _ ≤ 16777216; omega
    simp only [this, if_true]
  have e4 : mBin fAdd (mVar k) (mLst items) ρ S = .ok (.ref (S ++ G ++ [Ob.lst ds]).length) (S ++ (G ++ [.lst ds] ++ [.lst (xs ++ ds)])) := by
    unfold mBin
    rw [hρ]
    show (mLst items ρ S).bind _ = _
    rw [e2]
    show R.ofO (fAdd _ _ _) = _
    rw [e3]
    simp [R.ofO]
  rw [wp_asg, e4]
  refine f _ _ ⟨⟨_, by rw [g0, List.append_assoc]⟩, xs ++ ds, ?_, by simp; omega, fun x hx => ?_⟩
  · rw [← List.append_assoc, ← List.append_assoc]
    simp
  · rw [← List.append_assoc, ← List.append_assoc]
    rcases List.mem_append.mp hx with hx | hx
    · rw [List.append_assoc, List.append_assoc]
      exact mono _ _ _ (a3 x hx)
    · rw [List.append_assoc]
      exact mono _ _ _ (h1 x hx)
end
/-! bad ends -/
structure BadE (b key : Nat) (ss : Ss) (S : Sto) (x : D) : Prop where
  no : ∀ G, m_is_slip [.int (b : Int), .int (key : Int), .tup [.tup (stD ss), x]] (S ++ G) = .ok (.bl false) (S ++ G)
theorem badE_mono {b key : Nat} {ss : Ss} (S G : Sto) (x : D) (h : BadE b key ss S x) : BadE b key ss (S ++ G) x := ⟨fun G2 => by
  rw [List.append_assoc]
  exact h.no _⟩
section
variable {b key : Nat} {ss : Ss} {S : Sto}
theorem badE_tup (hb : b ≤ 60) (h : Stps b 0 ss) {es : List D} (h1 : ∀ d ∈ es, Q S d) (h2 : endB b key (plc 0 ss) (decide (ss = [])) es = false) : BadE b key ss S (.tup es) := by
  refine ⟨fun G => ?_⟩
  rw [g_slip (E := .tup es) hb h trivial fun _ e => by cases e; exact Te.of fun d hd => (h1 d hd).more]
  show R.ok (D.bl (endB b key (plc 0 ss) (decide (ss = [])) es)) (S ++ G) = _
  rw [h2]
theorem Ty.more {G : Sto} {d : D} (h1 : Ty S d) : Ty (S ++ G) d := by
  cases d with
  | ref n => exact h1.imp (fun ⟨q, h⟩ => ⟨q, at_more h⟩) fun ⟨q, h⟩ => ⟨q, at_more h⟩
  | ty _ => exact h1.elim
  | gl _ => exact h1.elim
  | _ => trivial
theorem badE_nt (hb : b ≤ 60) (h : Stps b 0 ss) {x : D} (h1 : Ty S x) (h2 : tB x = false) : BadE b key ss S x := by
  refine ⟨fun G => ?_⟩
  rw [g_slip hb h h1.more fun es e => by rw [e] at h2; cases h2]
  cases x <;> first | rfl | cases h2
end
theorem len_a61 : (Txt.mul "a" 61).length = 61 := by decide +kernel
theorem xor_top {k j m : Nat} (h : m ≤ j) : (k ^^^ 2 ^ j) / 2 ^ m ≠ k / 2 ^ m := by
  intro e
  have e1 : (k ^^^ 2 ^ j) >>> m = (k >>> m) ^^^ (2 ^ j) >>> m := Nat.shiftRight_xor_distrib ..
  rw [Nat.shiftRight_eq_div_pow, Nat.shiftRight_eq_div_pow, Nat.shiftRight_eq_div_pow, e, show 2 ^ j / 2 ^ m = 2 ^ (j - m) from Nat.pow_div h (by decide)] at e1
  have e2 : k / 2 ^ m ^^^ 2 ^ (j - m) ^^^ k / 2 ^ m = 0 := by rw [← e1, Nat.xor_self]
  rw [Nat.xor_comm, ← Nat.xor_assoc, Nat.xor_self, Nat.zero_xor] at e2
  exact absurd e2 (Nat.ne_of_gt (Nat.two_pow_pos _))

section
variable {b key : Nat} {ss : Ss} {S : Sto}
theorem q_leaf : Q S (.str "leaf") := q_lit (by decide +kernel)
theorem q_Leaf : Q S (.str "Leaf") := q_lit (by decide +kernel)
theorem q_a : Q S (.str "a") := q_lit (by decide +kernel)
theorem q_b : Q S (.str "b") := q_lit (by decide +kernel)
theorem q_5 : Q S (.str "5") := q_lit (by decide +kernel)
theorem q_1 : Q S (.str "1") := q_lit (by decide +kernel)
theorem q_e : Q S (.str "") := q_lit (by decide +kernel)
theorem q_cut : Q S (.str "cut") := q_lit (by decide +kernel)
theorem q_bare : Q S (.str "bare") := q_lit (by decide +kernel)
theorem q_bar : Q S (.str "bar") := q_lit (by decide +kernel)
theorem q_fork : Q S (.str "fork") := q_lit (by decide +kernel)
theorem q_Fork : Q S (.str "Fork") := q_lit (by decide +kernel)
theorem q_a61 : Q S (.str (Txt.mul "a" 61)) := q_lit (by decide +kernel)
theorem q_ta : Q S (.tup [.str "a"]) := q_tup fun d hd => by
  rw [List.mem_singleton.mp hd]
  exact ⟨q_a, _, .str _, by rw [PyData.canLay0]; decide +kernel, by simp [PyData.depth]⟩
theorem q_tbare : Q S (.tup [.str "bare"]) := q_tup fun d hd => by
  rw [List.mem_singleton.mp hd]
  exact ⟨q_bare, _, .str _, by rw [PyData.canLay0]; decide +kernel, by simp [PyData.depth]⟩
theorem q_lst {n : Nat} {ds : List D} (h : S[n]? = some (.lst ds)) (h1 : ∀ d ∈ ds, isPt d = true) (h2 : ∀ d ∈ ds, okPt d = true) : Q S (.ref n) := by
  have c := canLay_pts ds h2
  have d := depth_pts ds
  exact ⟨.inl ⟨_, h⟩, nofun, _, .ref (lst_of h) (rps_pts h1), by rw [PyData.canLay0, c], by rw [PyData.depth, d]; decide⟩
theorem ne_lit {x y : Str} (h : decide (x = y) = false) : (x = y) = False := by simpa using h
end
theorem i1 : isLit (.str "leaf") "leaf" = true := by decide +kernel
theorem i2 : isLit (.str "Leaf") "leaf" = false := by decide +kernel
theorem i3 : isLit (.str "Leaf") "fork" = false := by decide +kernel
theorem i4 : isLit (.str "cut") "leaf" = false := by decide +kernel
theorem i5 : isLit (.str "cut") "fork" = false := by decide +kernel
theorem i6 : isLit (.str "bare") "leaf" = false := by decide +kernel
theorem i7 : isLit (.str "bare") "fork" = false := by decide +kernel
theorem i8 : isLit (.str "bar") "leaf" = false := by decide +kernel
theorem i9 : isLit (.str "bar") "fork" = false := by decide +kernel
theorem i10 : isLit (.str "") "leaf" = false := by decide +kernel
theorem i11 : isLit (.str "") "fork" = false := by decide +kernel
theorem i12 : isLit (.str "fork") "leaf" = false := by decide +kernel
theorem i13 : isLit (.str "fork") "fork" = true := by decide +kernel
theorem i14 : isLit (.str "Fork") "leaf" = false := by decide +kernel
theorem i15 : isLit (.str "Fork") "fork" = false := by decide +kernel
theorem i16 : isLit (.str "") "bare" = false := by decide +kernel
theorem i17 : isLit (.str "bar") "bare" = false := by decide +kernel
theorem vb0 : vB (.str "") = true := by decide +kernel
theorem vba : vB (.str "a") = true := by decide +kernel
theorem vb61 : vB (.str (Txt.mul "a" 61)) = false := by decide +kernel
theorem kb_no {b : Nat} {n : Int} (h : ¬ (0 ≤ n ∧ n < 2 ^ b)) : kB b (.int n) = false := by
  unfold kB
  simp only [Bool.and_eq_false_iff, decide_eq_false_iff_not]
  omega
theorem kb_yes {b k : Nat} (h : k < 2 ^ b) : kB b (.int (k : Int)) = true := by
  unfold kB
  rw [pow_int]
  simp only [Bool.and_eq_true, decide_eq_true_eq]
  omega
theorem far_b {b : Nat} (hb : b ≤ 60) : (2 : Int) ^ b ≤ 1152921504606846976 := by
  have := pow60 hb
  rw [pow_int]
  omega
def obL : Option Ob → Bool
  | some (.lst _) => true
  | some (.dk _) => true
  | _ => false
def obP : Option Ob → Bool
  | some (.lst ds) => ds.all isPt && ds.all okPt
  | _ => false
theorem badE_ref {b key : Nat} {ss : Ss} {S : Sto} {n : Nat} (hb : b ≤ 60) (h : Stps b 0 ss) (h1 : obL (S[n]?) = true) : BadE b key ss S (.ref n) := by
  refine badE_nt hb h ?_ rfl
  cases e : S[n]? with
  | none => rw [e] at h1; cases h1
  | some o =>
    rw [e] at h1
    cases o with
    | lst q => exact .inl ⟨q, e⟩
    | dk q => exact .inr ⟨q, e⟩
    | _ => cases h1
theorem q_ref {S : Sto} {n : Nat} (h1 : obP (S[n]?) = true) : Q S (.ref n) := by
  cases e : S[n]? with
  | none => rw [e] at h1; cases h1
  | some o =>
    rw [e] at h1
    cases o with
    | lst q =>
      have h2 : (q.all isPt && q.all okPt) = true := h1
      rw [Bool.and_eq_true, List.all_eq_true, List.all_eq_true] at h2
      exact q_lst e h2.1 h2.2
    | _ => cases h1
theorem m45 : cMul1 1000000000000000000000000000000000000000000000 1000000000000000000000000000000000000000000000 = true := cMul1_of (a := 150) (b := 150) (by decide +kernel) (by decide +kernel) (by decide) (by decide) (by decide)
theorem len61 : 60 < (Txt.mul "a" 61).length := by decide +kernel
theorem ok_a : PyData.strOk "a" = true := by decide +kernel
theorem r_bad_leaves {b key : Nat} {ss : Ss} {S : Sto} (q : Int) (hb : b ≤ 60) (hk : key < 2 ^ b) (h : Stps b 0 ss) :
    ∃ L S' n, m__law_bad_leaves [.int (b : Int), .int (key : Int), .int (plc 0 ss : Int), .int q] S = .ok (.ref L) S' ∧ AccX (BadE b key ss) S S' n L ∧ 0 < n ∧ n ≤ 100 := by
  have M := @badE_mono b key ss
  have T := fun {S : Sto} {es : List D} => @badE_tup b key ss S hb h es
  have FR := fun {S : Sto} {n : Nat} => @badE_ref b key ss S n hb h
  have F := fun {S : Sto} {x : D} => @badE_nt b key ss S hb h x
  have pl := (plc_le h (Nat.zero_le b)).1
  have c1 : (b : Int) ≤ 134217727 := by omega
  have pk := far_b hb
  have pb : (0 : Int) < 2 ^ b := by rw [pow_int]; have := Nat.two_pow_pos b; omega
  have hk1 : kB b (.int (key : Int)) = true := kb_yes hk
  have w : We (m__law_bad_leaves [.int (b : Int), .int (key : Int), .int (plc 0 ss : Int), .int q] S) (fun d S' => ∃ L n, d = .ref L ∧ AccX (BadE b key ss) S S' n L ∧ 0 < n ∧ n ≤ 100) fun _ _ => False := by
    unfold m__law_bad_leaves
    refine we_def ?_
    unfold b__law_bad_leaves
    rw [wp_seq]
    refine wp_acc0 (n := 6) M ?_ (by decide) fun L1 S1 a1 => ?_
    · simp -dsimp [AllP]
      refine ⟨?_, ?_, ?_, ?_, ?_, ?_⟩
      all_goals first | exact F trivial rfl | exact FR (by simp [obL, Nat.add_assoc]) | (refine T ?_ ?_ <;> first | (simp [q_leaf, q_Leaf, q_a, q_b, q_5, q_1, q_e, q_cut, q_bare, q_bar, q_fork, q_Fork, q_a61, q_ta, q_tbare, q_non, q_bl, q_int]; done) | (simp [endB, i1, i2, i3, i4, i5, i6, i7, i8, i9, i10, i11, i12, i13, i14, i15, i16, i17, leafB, forkB, vb0, vba, vb61, vB, sB, isLit, hk1, len61]; done))
    rw [wp_seq]
    refine wp_acc (n := 6) M a1 (by rfl) ?_ (by decide) fun L2 S2 a2 => ?_
    · simp -dsimp [AllP, c1]
      refine ⟨?_, ?_, ?_, ?_, ?_, ?_⟩
      all_goals first | (first | exact F trivial rfl | exact FR (by simp [obL, Nat.add_assoc]) | (refine T ?_ ?_ <;> first | (simp [q_leaf, q_Leaf, q_a, q_b, q_5, q_1, q_e, q_cut, q_bare, q_bar, q_fork, q_Fork, q_a61, q_ta, q_tbare, q_non, q_bl, q_int]; done) | (simp [endB, i1, i2, i3, i4, i5, i6, i7, i8, i9, i10, i11, i12, i13, i14, i15, i16, i17, leafB, forkB, vb0, vba, vb61, vB, sB, isLit, hk1, len61]; done))) | (refine T ?_ ?_ <;> first | (simp [q_leaf, q_Leaf, q_a, q_b, q_5, q_1, q_e, q_cut, q_bare, q_bar, q_fork, q_Fork, q_a61, q_ta, q_tbare, q_non, q_bl, q_int]; done) | (simp [endB, i1, i2, i3, i4, i5, i6, i7, i8, i9, i10, i11, i12, i13, i14, i15, i16, i17, leafB, forkB, vb0, vba, vb61, vB, sB, isLit, kb_no (b := b) (n := 2 ^ b) (by omega), kb_no (b := b) (n := -1) (by omega), kB]; done))
    rw [wp_seq]
    refine wp_acc (n := 4) M a2 (by rfl) ?_ (by decide) fun L3 S3 a3 => ?_
    · simp -dsimp [AllP, c1, show ("a" : Str).length ≤ 100 by decide +kernel]
      refine ⟨?_, ?_, ?_, ?_⟩
      all_goals first | (first | exact F trivial rfl | exact FR (by simp [obL, Nat.add_assoc]) | (refine T ?_ ?_ <;> first | (simp [q_leaf, q_Leaf, q_a, q_b, q_5, q_1, q_e, q_cut, q_bare, q_bar, q_fork, q_Fork, q_a61, q_ta, q_tbare, q_non, q_bl, q_int]; done) | (simp [endB, i1, i2, i3, i4, i5, i6, i7, i8, i9, i10, i11, i12, i13, i14, i15, i16, i17, leafB, forkB, vb0, vba, vb61, vB, sB, isLit, hk1, len61]; done))) | (refine T ?_ ?_ <;> first | (simp [q_leaf, q_Leaf, q_a, q_b, q_5, q_1, q_e, q_cut, q_bare, q_bar, q_fork, q_Fork, q_a61, q_ta, q_tbare, q_non, q_bl, q_int]; done) | (simp [endB, i1, i2, i3, i4, i5, i6, i7, i8, i9, i10, i11, i12, i13, i14, i15, i16, i17, leafB, forkB, vb0, vba, vb61, vB, sB, isLit, kB]; done))
    rw [wp_seq]
    refine wp_acc (n := 7) M a3 (by rfl) ?_ (by decide) fun L4 S4 a4 => ?_
    · simp -dsimp [AllP, c1]
      refine ⟨?_, ?_, ?_, ?_, ?_, ?_, ?_⟩
      all_goals first | (first | exact F trivial rfl | exact FR (by simp [obL, Nat.add_assoc]) | (refine T ?_ ?_ <;> first | (simp [q_leaf, q_Leaf, q_a, q_b, q_5, q_1, q_e, q_cut, q_bare, q_bar, q_fork, q_Fork, q_a61, q_ta, q_tbare, q_non, q_bl, q_int]; done) | (simp [endB, i1, i2, i3, i4, i5, i6, i7, i8, i9, i10, i11, i12, i13, i14, i15, i16, i17, leafB, forkB, vb0, vba, vb61, vB, sB, isLit, hk1, len61]; done))) | (refine T ?_ ?_ <;> first | (simp [q_leaf, q_Leaf, q_a, q_b, q_5, q_1, q_e, q_cut, q_bare, q_bar, q_fork, q_Fork, q_a61, q_ta, q_tbare, q_non, q_bl, q_int]; done) | (simp [endB, i1, i2, i3, i4, i5, i6, i7, i8, i9, i10, i11, i12, i13, i14, i15, i16, i17, leafB, forkB, vb0, vba, vb61, vB, sB, isLit, hk1]; done) | (simp [q_leaf, q_Leaf, q_a, q_b, q_5, q_1, q_e, q_cut, q_bare, q_bar, q_fork, q_Fork, q_a61, q_ta, q_tbare, q_non, q_bl, q_int]; exact q_ref (by simp [obP, Nat.add_assoc, isPt, okPt, ok_a])))
    rw [wp_seq]
    obtain ⟨kd, Gd, ed, qd, _⟩ := r_deep (S := S4) (d := .int (key : Int)) (.int _) (by simp [PyData.canLay0]) (by simp [PyData.depth])
    refine wp_acc (n := 4) M a4 (by rfl) ?_ (by decide) fun L5 S5 a5 => ?_
    · simp -dsimp [AllP, c1, ed]
      refine ⟨?_, ?_, ?_, ?_⟩
      all_goals first | (first | exact F trivial rfl | exact FR (by simp [obL, Nat.add_assoc]) | (refine T ?_ ?_ <;> first | (simp [q_leaf, q_Leaf, q_a, q_b, q_5, q_1, q_e, q_cut, q_bare, q_bar, q_fork, q_Fork, q_a61, q_ta, q_tbare, q_non, q_bl, q_int]; done) | (simp [endB, i1, i2, i3, i4, i5, i6, i7, i8, i9, i10, i11, i12, i13, i14, i15, i16, i17, leafB, forkB, vb0, vba, vb61, vB, sB, isLit, hk1, len61]; done))) | (refine T ?_ ?_ <;> first | (simp [q_leaf, q_Leaf, q_a, q_b, q_5, q_1, q_e, q_cut, q_bare, q_bar, q_fork, q_Fork, q_a61, q_ta, q_tbare, q_non, q_bl, q_int, qd]; done) | (simp [endB, i1, i2, i3, i4, i5, i6, i7, i8, i9, i10, i11, i12, i13, i14, i15, i16, i17, leafB, forkB, vb0, vba, vb61, vB, sB, isLit, hk1, kB]; done) | (simp [endB, i1, i2, i3, i4, i5, i6, i7, i8, i9, i10, i11, i12, i13, i14, i15, i16, i17, leafB, forkB, vb0, vba, vb61, vB, sB, isLit, kb_no (b := b) (n := (key : Int) + 2 ^ b) (by omega)]; done))
    rw [wp_seq]
    refine wp_acc (n := 3) M a5 (by rfl) ?_ (by decide) fun L6 S6 a6 => ?_
    · simp -dsimp [AllP, c1, m45]
      refine ⟨?_, ?_, ?_⟩
      all_goals first | (first | exact F trivial rfl | exact FR (by simp [obL, Nat.add_assoc]) | (refine T ?_ ?_ <;> first | (simp [q_leaf, q_Leaf, q_a, q_b, q_5, q_1, q_e, q_cut, q_bare, q_bar, q_fork, q_Fork, q_a61, q_ta, q_tbare, q_non, q_bl, q_int]; done) | (simp [endB, i1, i2, i3, i4, i5, i6, i7, i8, i9, i10, i11, i12, i13, i14, i15, i16, i17, leafB, forkB, vb0, vba, vb61, vB, sB, isLit, hk1, len61]; done))) | (refine T ?_ ?_ <;> first | (simp [q_leaf, q_Leaf, q_a, q_b, q_5, q_1, q_e, q_cut, q_bare, q_bar, q_fork, q_Fork, q_a61, q_ta, q_tbare, q_non, q_bl, q_int]; done) | (simp [endB, i1, i2, i3, i4, i5, i6, i7, i8, i9, i10, i11, i12, i13, i14, i15, i16, i17, leafB, forkB, vb0, vba, vb61, vB, sB, isLit, kB]; done) | (simp [endB, i1, i2, i3, i4, i5, i6, i7, i8, i9, i10, i11, i12, i13, i14, i15, i16, i17, leafB, forkB, vb0, vba, vb61, vB, sB, isLit, kb_no (b := b) (n := 1000000000000000000000000000000000000000000000000000000000000000000000000000000000000000000) (by omega)]; done))
    by_cases p0 : plc 0 ss = 0
    · have z0 : ¬ (0 : Int) < (plc 0 ss : Int) := by omega
      rw [wp_seq, wp_sif]
      refine We.of (d := false) (S := S6) (by simp [p0]) ?_
      simp -dsimp
      exact ⟨_, a6, by decide, by decide⟩
    · have z0 : (0 : Int) < (plc 0 ss : Int) := by omega
      have hs : ss ≠ [] := by
        rintro rfl
        exact p0 rfl
      have qm1 := Int.emod_nonneg q (show (plc 0 ss : Int) ≠ 0 by omega)
      have qm2 := Int.emod_lt_of_pos q z0
      obtain ⟨j, hj1, hj2, hj3⟩ : ∃ j : Nat, (b : Int) - 1 - q % (plc 0 ss : Int) = (j : Int) ∧ b - plc 0 ss ≤ j ∧ j < b := ⟨((b : Int) - 1 - q % (plc 0 ss : Int)).toNat, by omega, by omega, by omega⟩
      have c2 : (j : Int) ≤ 134217727 := by omega
      have x1 : Builtin.bitXor (key : Int) (2 ^ j) = ((key ^^^ 2 ^ j : Nat) : Int) := by
        rw [pow_int, _root_.Bits.bitXor_pp (Int.natCast_nonneg _) (Int.natCast_nonneg _), Int.toNat_natCast, Int.toNat_natCast]
      have x2 : key ^^^ 2 ^ j < 2 ^ b := Nat.xor_lt_two_pow hk (Nat.pow_lt_pow_right (by decide) hj3)
      have x3 := xor_top (k := key) hj2
      have hk2 := kb_yes x2
      have lf : ∀ z : Str, leafB b key (plc 0 ss) [.str "leaf", .int ((key ^^^ 2 ^ j : Nat) : Int), .str z] = false := fun z => by
        rw [leafB_eq, show ((key ^^^ 2 ^ j : Nat) : Int) / 2 ^ (b - plc 0 ss) = (((key ^^^ 2 ^ j) / 2 ^ (b - plc 0 ss) : Nat) : Int) by simp]
        have : ¬ (((key ^^^ 2 ^ j) / 2 ^ (b - plc 0 ss) : Nat) : Int) = ((key / 2 ^ (b - plc 0 ss) : Nat) : Int) := by omega
        simp only [this, decide_false, Bool.and_false]
      have z1 : 0 < plc 0 ss := by omega
      have eL : ∀ es, endB b key (plc 0 ss) (decide (ss = [])) (.str "leaf" :: es) = leafB b key (plc 0 ss) (.str "leaf" :: es) := fun es => by simp [endB, i1]
      rw [wp_seq, wp_sif]
      refine We.of (d := true) (S := S6) (by simp [z1]) ?_
      rw [if_pos rfl, wp_seq, wp_asg]
      refine We.of (d := .int (2 ^ j)) (S := S6) (by simp [z1, hj1, c2]) ?_
      refine wp_acc (n := 3) M a6 (by rfl) ?_ (by decide) fun L7 S7 a7 => ?_
      · simp -dsimp [AllP, x1]
        refine ⟨?_, ?_, ?_⟩
        all_goals refine T ?_ ?_
        all_goals first | (simp [q_leaf, q_Leaf, q_a, q_b, q_5, q_1, q_e, q_cut, q_bare, q_bar, q_fork, q_Fork, q_a61, q_ta, q_tbare, q_non, q_bl, q_int]; done) | (rw [eL]; exact lf _) | (simp [endB, i1, i2, i3, i4, i5, i6, i7, i8, i9, i10, i11, i12, i13, i14, i15, i16, i17, leafB, forkB, vb0, vba, vb61, vB, sB, isLit, hs]; done)
      · simp -dsimp
        exact ⟨_, a7, by decide, by decide⟩
  obtain ⟨d, S', e, L, n, rfl, z⟩ := w.ok
  exact ⟨L, S', n, e, z⟩

section
variable {b key lo : Nat} {a m1 m2 : D} {f g : Int}
theorem forkB_f (h : ¬ ((lo : Int) < f ∧ f < b)) : forkB b key lo [a, .int f, .int g, m1, m2] = false := by
  rw [forkB_eq]
  by_cases c : (lo : Int) < f
  · have c2 : ¬ f < (b : Int) := fun z => h ⟨c, z⟩
    simp [c2]
  · simp [c]
theorem forkB_g (h : ¬ (0 ≤ g ∧ g < 2 ^ f.toNat)) : forkB b key lo [a, .int f, .int g, m1, m2] = false := by
  rw [forkB_eq]
  by_cases c : 0 ≤ g
  · have c2 : ¬ g < 2 ^ f.toNat := fun z => h ⟨c, z⟩
    simp [c2]
  · simp [c]
theorem forkB_m (h : sB m1 = false ∨ sB m2 = false) : forkB b key lo [a, .int f, .int g, m1, m2] = false := by
  rw [forkB_eq]
  rcases h with h | h <;> simp [h]
theorem forkB_p (h : ¬ g / 2 ^ (f.toNat - lo) = ((key / 2 ^ (b - lo) : Nat) : Int)) : forkB b key lo [a, .int f, .int g, m1, m2] = false := by
  rw [forkB_eq]
  generalize ((key / 2 ^ (b - lo) : Nat) : Int) = R at *
  simp [h]
theorem forkB_o (h : g = ((key / 2 ^ (b - f.toNat) : Nat) : Int)) : forkB b key lo [a, .int f, .int g, m1, m2] = false := by
  rw [forkB_eq, ← h]
  simp
end
theorem xor_low {k m : Nat} (h : 1 ≤ m) : (k ^^^ 1) / 2 ^ m = k / 2 ^ m := by
  have e1 : (k ^^^ 1) >>> m = (k >>> m) ^^^ 1 >>> m := Nat.shiftRight_xor_distrib ..
  rw [Nat.shiftRight_eq_div_pow, Nat.shiftRight_eq_div_pow, Nat.shiftRight_eq_div_pow, show 1 / 2 ^ m = 0 from Nat.div_eq_of_lt (Nat.one_lt_two_pow (by omega)), Nat.xor_zero] at e1
  exact e1
theorem xor_one {k : Nat} (e : k ^^^ 1 = k) : False := by
  have e2 : k ^^^ 1 ^^^ k = 0 := by rw [e, Nat.xor_self]
  rw [Nat.xor_comm, ← Nat.xor_assoc, Nat.xor_self, Nat.zero_xor] at e2
  cases e2
theorem bx {x y : Nat} : Builtin.bitXor (x : Int) (y : Int) = ((x ^^^ y : Nat) : Int) := by
  rw [_root_.Bits.bitXor_pp (Int.natCast_nonneg _) (Int.natCast_nonneg _), Int.toNat_natCast, Int.toNat_natCast]
theorem bx1 {x : Nat} : Builtin.bitXor (x : Int) 1 = ((x ^^^ 1 : Nat) : Int) := bx (y := 1)
theorem bits60 {k b : Nat} (hk : k < 2 ^ b) (hb : b ≤ 60) : Builtin.Int.intBits (k : Int) ≤ 60 := by
  unfold Builtin.Int.intBits
  split
  · omega
  · rename_i h
    have : ((k : Int)).natAbs = k := rfl
    rw [this]
    have h0 : k ≠ 0 := fun z => h (by rw [z]; rfl)
    have := (Nat.log2_lt h0).mpr (Nat.lt_of_lt_of_le hk (Nat.pow_le_pow_right (by decide) hb))
    omega
theorem q_t2 {S : Sto} : Q S (.tup [.int 2]) := q_tup fun d hd => by
  rw [List.mem_singleton.mp hd]
  exact ⟨q_int, _, .int _, by simp [PyData.canLay0], by simp [PyData.depth]⟩
theorem q_num {S : Sto} {f : Nat} (h : f ≤ 60) : Q S (.str (num (f : Int))) := by
  have h1 := len_num7 (n := f) (by omega)
  refine q_str (by omega) ?_
  have := (Sz.ok (b := 1000) (.inr ⟨_, rfl, by omega, num_codes (Int.natCast_nonneg f)⟩) : okPt (.str (num (f : Int))) = true)
  exact this
theorem far_no : sB (.int 1000000000000000000000000000000000000000000000000000000000000000000000000000000000000000000) = false := by decide +kernel
theorem big_no : sB (.int 1000000000000000000000000000000000000000000000000000000000000) = false := by decide +kernel
set_option maxHeartbeats 40000000 in
theorem r_bad_forks {b key : Nat} {ss : Ss} {S : Sto} (q : Int) (hb : b ≤ 60) (hk : key < 2 ^ b) (h : Stps b 0 ss) :
    ∃ L S' n, m__law_bad_forks [.int (b : Int), .int (key : Int), .int (plc 0 ss : Int), .int q] S = .ok (.ref L) S' ∧ AccX (BadE b key ss) S S' n L ∧ 0 < n ∧ n ≤ 100 := by
  have M := @badE_mono b key ss
  have T := fun {S : Sto} {es : List D} => @badE_tup b key ss S hb h es
  have FR := fun {S : Sto} {n : Nat} => @badE_ref b key ss S n hb h
  have F := fun {S : Sto} {x : D} => @badE_nt b key ss S hb h x
  have pl := (plc_le h (Nat.zero_le b)).1
  have eF : ∀ es, endB b key (plc 0 ss) (decide (ss = [])) (.str "fork" :: es) = forkB b key (plc 0 ss) (.str "fork" :: es) := fun es => by simp [endB, i12, i13]
  have hs0 : plc 0 ss = 0 ∨ ss ≠ [] := by
    cases ss with
    | nil => exact .inl rfl
    | cons a r => exact .inr (by simp)
  have w : We (m__law_bad_forks [.int (b : Int), .int (key : Int), .int (plc 0 ss : Int), .int q] S) (fun d S' => ∃ L n, d = .ref L ∧ AccX (BadE b key ss) S S' n L ∧ 0 < n ∧ n ≤ 100) fun _ _ => False := by
    unfold m__law_bad_forks
    refine we_def ?_
    unfold b__law_bad_forks
    change Wp (sSeq _ _ [some (.int (b : Int)), some (.int (key : Int)), some (.int (plc 0 ss : Int)), some (.int q), none, none, none, none, none, none, none, none] S) _ _ _
    generalize plc 0 ss = lo at *
    generalize decide (ss = []) = nost at *
    have c1 : (b : Int) ≤ 134217727 := by omega
    have c2 : ((b : Int) - (lo : Int)).toNat = b - lo := by omega
    have c3 : (lo : Int) ≤ (b : Int) := by omega
    have pk := far_b hb
    obtain ⟨A, hA⟩ : ∃ A : Nat, A = key / 2 ^ (b - lo) := ⟨_, rfl⟩
    have eA : (key : Int) / 2 ^ (b - lo) = (A : Int) := by rw [hA]; simp
    rw [wp_seq, wp_asg]
    refine We.of (d := .int (A : Int)) (S := S) (by simp [c2, c3, eA]) ?_
    dsimp only [List.set]
    try dsimp only [List.set]
    rw [wp_seq]
    refine wp_acc0 (n := 3) M ?_ (by decide) fun L1 S1 a1 => ?_
    · simp -dsimp [AllP]
      refine ⟨?_, ?_, ?_⟩
      · (refine T (by simp [q_leaf, q_Leaf, q_a, q_b, q_5, q_1, q_e, q_cut, q_bare, q_bar, q_fork, q_Fork, q_a61, q_ta, q_tbare, q_non, q_bl, q_int, q_t2]) ?_; rw [eF]; exact forkB_f (by omega))
      · (refine T (by simp [q_leaf, q_Leaf, q_a, q_b, q_5, q_1, q_e, q_cut, q_bare, q_bar, q_fork, q_Fork, q_a61, q_ta, q_tbare, q_non, q_bl, q_int, q_t2]) ?_; rw [eF]; exact forkB_f (by omega))
      · (refine T (by simp [q_leaf, q_Leaf, q_a, q_b, q_5, q_1, q_e, q_cut, q_bare, q_bar, q_fork, q_Fork, q_a61, q_ta, q_tbare, q_non, q_bl, q_int, q_t2]) ?_; rw [eF]; exact forkB_f (by omega))
    try dsimp only [List.set]
    rw [wp_seq]
    refine wp_acc (n := 4) M a1 (by rfl) ?_ (by decide) fun L2 S2 a2 => ?_
    · simp -dsimp [AllP]
      refine ⟨?_, ?_, ?_, ?_⟩
      · (refine T (by simp [q_leaf, q_Leaf, q_a, q_b, q_5, q_1, q_e, q_cut, q_bare, q_bar, q_fork, q_Fork, q_a61, q_ta, q_tbare, q_non, q_bl, q_int, q_t2]) ?_; rw [eF]; simp [forkB])
      · (refine T (by simp [q_leaf, q_Leaf, q_a, q_b, q_5, q_1, q_e, q_cut, q_bare, q_bar, q_fork, q_Fork, q_a61, q_ta, q_tbare, q_non, q_bl, q_int, q_t2]) ?_; rw [eF]; exact forkB_f (by omega))
      · (refine T (by simp [q_leaf, q_Leaf, q_a, q_b, q_5, q_1, q_e, q_cut, q_bare, q_bar, q_fork, q_Fork, q_a61, q_ta, q_tbare, q_non, q_bl, q_int, q_t2]) ?_; rw [eF]; simp [forkB])
      · (refine T (by simp [q_leaf, q_Leaf, q_a, q_b, q_5, q_1, q_e, q_cut, q_bare, q_bar, q_fork, q_Fork, q_a61, q_ta, q_tbare, q_non, q_bl, q_int, q_t2]) ?_; rw [eF]; simp [forkB])
    try dsimp only [List.set]
    rw [wp_seq, wp_asg]
    refine We.of (d := .int 1000000000000000000000000000000000000000000000000000000000000000000000000000000000000000000) (S := S2) (by simp [m45]) ?_
    dsimp only [List.set]
    try dsimp only [List.set]
    rw [wp_seq]
    refine wp_acc (n := 3) M a2 (by rfl) ?_ (by decide) fun L3 S3 a3 => ?_
    · simp -dsimp [AllP]
      refine ⟨?_, ?_, ?_⟩
      · (refine T (by simp [q_leaf, q_Leaf, q_a, q_b, q_5, q_1, q_e, q_cut, q_bare, q_bar, q_fork, q_Fork, q_a61, q_ta, q_tbare, q_non, q_bl, q_int, q_t2]) ?_; rw [eF]; exact forkB_f (by omega))
      · (refine T (by simp [q_leaf, q_Leaf, q_a, q_b, q_5, q_1, q_e, q_cut, q_bare, q_bar, q_fork, q_Fork, q_a61, q_ta, q_tbare, q_non, q_bl, q_int, q_t2]) ?_; rw [eF]; exact forkB_f (by omega))
      · (refine T (by simp [q_leaf, q_Leaf, q_a, q_b, q_5, q_1, q_e, q_cut, q_bare, q_bar, q_fork, q_Fork, q_a61, q_ta, q_tbare, q_non, q_bl, q_int, q_t2]) ?_; rw [eF]; exact forkB_f (by omega))
    have z1 := Int.emod_nonneg q (show (30 : Int) ≠ 0 by decide)
    have z2 := Int.emod_lt_of_pos q (show (0 : Int) < 30 by decide)
    try dsimp only [List.set]
    rw [wp_seq, wp_asg]
    refine We.of (d := .int (1 + q % 30)) (S := S3) (by simp) ?_
    dsimp only [List.set]
    have z3 : 0 ≤ 1 + q % 30 := by omega
    have z4 : cShl (key : Int) (1 + q % 30) = true := cdec_is ⟨z3, by
      have : (Builtin.Int.intBits (key : Int) : Nat) ≤ 60 := bits60 hk hb
      show _ ≤ (134217728 : Int)
      omega⟩
    try dsimp only [List.set]
    rw [wp_seq]
    refine wp_acc (n := 2) M a3 (by rfl) ?_ (by decide) fun L4 S4 a4 => ?_
    · simp -dsimp [AllP, z3, z4]
      refine ⟨?_, ?_⟩
      · (refine T (by simp [q_leaf, q_Leaf, q_a, q_b, q_5, q_1, q_e, q_cut, q_bare, q_bar, q_fork, q_Fork, q_a61, q_ta, q_tbare, q_non, q_bl, q_int, q_t2]) ?_; rw [eF]; exact forkB_f (by omega))
      · (refine T (by simp [q_leaf, q_Leaf, q_a, q_b, q_5, q_1, q_e, q_cut, q_bare, q_bar, q_fork, q_Fork, q_a61, q_ta, q_tbare, q_non, q_bl, q_int, q_t2]) ?_; rw [eF]; exact forkB_f (by omega))
    try dsimp only [List.set]
    rw [wp_seq, wp_sif]
    by_cases p0 : lo + 1 < b
    · have p1 : (lo : Int) + 1 < (b : Int) := by omega
      refine We.of (d := true) (S := S4) (by simp [p1]) ?_
      rw [if_pos rfl]
      have p2 : (0 : Int) < (b : Int) - 1 - (lo : Int) := by omega
      have y1 := Int.emod_nonneg q (show (b : Int) - 1 - (lo : Int) ≠ 0 by omega)
      have y2 := Int.emod_lt_of_pos q p2
      obtain ⟨f, hf, f1, f2⟩ : ∃ f : Nat, (lo : Int) + 1 + q % ((b : Int) - 1 - (lo : Int)) = (f : Int) ∧ lo < f ∧ f < b := ⟨((lo : Int) + 1 + q % ((b : Int) - 1 - (lo : Int))).toNat, by omega, by omega, by omega⟩
      try dsimp only [List.set]
      rw [wp_seq, wp_asg]
      have p2' : (lo : Int) < (b : Int) - 1 := by omega
      refine We.of (d := .int (f : Int)) (S := S4) (by simp [p2', hf]) ?_
      dsimp only [List.set]
      have c4 : ((b : Int) - (f : Int)).toNat = b - f := by omega
      have c5 : (f : Int) ≤ (b : Int) := by omega
      have c6 : (f : Int) ≤ 134217727 := by omega
      obtain ⟨O, hO⟩ : ∃ O : Nat, O = key / 2 ^ (b - f) := ⟨_, rfl⟩
      have eO : (key : Int) / 2 ^ (b - f) = (O : Int) := by rw [hO]; simp
      have ft : ((f : Int)).toNat = f := rfl
      have O2 : O < 2 ^ f := by
        rw [hO, Nat.div_lt_iff_lt_mul (Nat.two_pow_pos _), ← Nat.pow_add, show f + (b - f) = b by omega]
        exact hk
      have G2 : O ^^^ 1 < 2 ^ f := Nat.xor_lt_two_pow O2 (Nat.one_lt_two_pow (by omega))
      try dsimp only [List.set]
      rw [wp_seq, wp_asg]
      refine We.of (d := .int (O : Int)) (S := S4) (by simp [c4, c5, eO]) ?_
      dsimp only [List.set]
      try dsimp only [List.set]
      rw [wp_seq, wp_asg]
      refine We.of (d := .int ((O ^^^ 1 : Nat) : Int)) (S := S4) (by simp [bx1]) ?_
      dsimp only [List.set]
      have pf : (2 : Int) ^ f ≤ 1152921504606846976 := far_b (by omega)
      have pn : (((O ^^^ 1 : Nat) : Int) < 2 ^ f) := by rw [pow_int]; omega
      have hl0 : (1 : Int) ≤ 2 ^ f := by rw [pow_int]; have := Nat.two_pow_pos f; omega
      generalize hG : O ^^^ 1 = G at *
      try dsimp only [List.set]
      rw [wp_seq]
      refine wp_acc (n := 3) M a4 (by rfl) ?_ (by decide) fun L5 S5 a5 => ?_
      · simp -dsimp [AllP]
        refine ⟨?_, ?_, ?_⟩
        · (refine T (by simp [q_leaf, q_Leaf, q_a, q_b, q_5, q_1, q_e, q_cut, q_bare, q_bar, q_fork, q_Fork, q_a61, q_ta, q_tbare, q_non, q_bl, q_int, q_t2]) ?_; rw [eF]; simp [forkB])
        · (refine T (by simp [q_leaf, q_Leaf, q_a, q_b, q_5, q_1, q_e, q_cut, q_bare, q_bar, q_fork, q_Fork, q_a61, q_ta, q_tbare, q_non, q_bl, q_int, q_t2]) ?_; rw [eF]; exact forkB_g (by rw [ft]; omega))
        · (refine T (by simp [q_leaf, q_Leaf, q_a, q_b, q_5, q_1, q_e, q_cut, q_bare, q_bar, q_fork, q_Fork, q_a61, q_ta, q_tbare, q_non, q_bl, q_int, q_t2]) ?_; rw [eF]; exact forkB_m (.inl far_no))
      try dsimp only [List.set]
      rw [wp_seq]
      refine wp_acc (n := 2) M a5 (by rfl) ?_ (by decide) fun L6 S6 a6 => ?_
      · simp -dsimp [AllP]
        refine ⟨?_, ?_⟩
        · (refine T (by simp [q_leaf, q_Leaf, q_a, q_b, q_5, q_1, q_e, q_cut, q_bare, q_bar, q_fork, q_Fork, q_a61, q_ta, q_tbare, q_non, q_bl, q_int, q_t2]) ?_; rw [eF]; exact forkB_m (.inl big_no))
        · (refine T (by simp [q_leaf, q_Leaf, q_a, q_b, q_5, q_1, q_e, q_cut, q_bare, q_bar, q_fork, q_Fork, q_a61, q_ta, q_tbare, q_non, q_bl, q_int, q_t2]) ?_; rw [eF]; exact forkB_m (.inl rfl))
      try dsimp only [List.set]
      rw [wp_seq]
      refine wp_acc (n := 1) M a6 (by rfl) ?_ (by decide) fun L7 S7 a7 => ?_
      · simp -dsimp [AllP]
        refine T ?_ ?_
        · simp [q_leaf, q_Leaf, q_a, q_b, q_5, q_1, q_e, q_cut, q_bare, q_bar, q_fork, q_Fork, q_a61, q_ta, q_tbare, q_non, q_bl, q_int, q_t2]
          exact q_ref (by simp [obP, isPt, okPt])
        · rw [eF]
          exact forkB_m (.inl rfl)
      try dsimp only [List.set]
      rw [wp_seq]
      refine wp_acc (n := 3) M a7 (by rfl) ?_ (by decide) fun L8 S8 a8 => ?_
      · simp -dsimp [AllP]
        refine ⟨?_, ?_, ?_⟩
        · (refine T (by simp [q_leaf, q_Leaf, q_a, q_b, q_5, q_1, q_e, q_cut, q_bare, q_bar, q_fork, q_Fork, q_a61, q_ta, q_tbare, q_non, q_bl, q_int, q_t2]) ?_; rw [eF]; exact forkB_m (.inr (by decide)))
        · (refine T (by simp [q_leaf, q_Leaf, q_a, q_b, q_5, q_1, q_e, q_cut, q_bare, q_bar, q_fork, q_Fork, q_a61, q_ta, q_tbare, q_non, q_bl, q_int, q_t2]) ?_; rw [eF]; exact forkB_m (.inr rfl))
        · (refine T (by simp [q_leaf, q_Leaf, q_a, q_b, q_5, q_1, q_e, q_cut, q_bare, q_bar, q_fork, q_Fork, q_a61, q_ta, q_tbare, q_non, q_bl, q_int, q_t2]) ?_; rw [eF]; exact forkB_m (.inr rfl))
      try dsimp only [List.set]
      rw [wp_seq]
      refine wp_acc (n := 3) M a8 (by rfl) ?_ (by decide) fun L9 S9 a9 => ?_
      · simp -dsimp [AllP]
        refine ⟨?_, ?_, ?_⟩
        · (refine T (by simp [q_leaf, q_Leaf, q_a, q_b, q_5, q_1, q_e, q_cut, q_bare, q_bar, q_fork, q_Fork, q_a61, q_ta, q_tbare, q_non, q_bl, q_int, q_t2]) ?_; rw [eF]; exact forkB_o (by rw [ft, hO]))
        · (refine T (by simp [q_leaf, q_Leaf, q_a, q_b, q_5, q_1, q_e, q_cut, q_bare, q_bar, q_fork, q_Fork, q_a61, q_ta, q_tbare, q_non, q_bl, q_int, q_t2]) ?_; rw [eF]; exact forkB_g (by omega))
        · (refine T (by simp [q_leaf, q_Leaf, q_a, q_b, q_5, q_1, q_e, q_cut, q_bare, q_bar, q_fork, q_Fork, q_a61, q_ta, q_tbare, q_non, q_bl, q_int, q_t2]) ?_; rw [eF]; simp [forkB])
      try dsimp only [List.set]
      rw [wp_seq]
      refine wp_acc (n := 2) M a9 (by rfl) ?_ (by decide) fun L10 S10 a10 => ?_
      · simp -dsimp [AllP, c6]
        refine ⟨?_, ?_⟩
        · (refine T (by simp [q_leaf, q_Leaf, q_a, q_b, q_5, q_1, q_e, q_cut, q_bare, q_bar, q_fork, q_Fork, q_a61, q_ta, q_tbare, q_non, q_bl, q_int, q_t2]) ?_; rw [eF]; exact forkB_g (by rw [ft]; omega))
        · (refine T (by simp [q_leaf, q_Leaf, q_a, q_b, q_5, q_1, q_e, q_cut, q_bare, q_bar, q_fork, q_Fork, q_a61, q_ta, q_tbare, q_non, q_bl, q_int, q_t2]) ?_; rw [eF]; simp [forkB])
      try dsimp only [List.set]
      rw [wp_seq]
      refine wp_acc (n := 3) M a10 (by rfl) ?_ (by decide) fun L11 S11 a11 => ?_
      · simp -dsimp [AllP]
        refine ⟨?_, ?_, ?_⟩
        · (refine T (by simp [q_leaf, q_Leaf, q_a, q_b, q_5, q_1, q_e, q_cut, q_bare, q_bar, q_fork, q_Fork, q_a61, q_ta, q_tbare, q_non, q_bl, q_int, q_t2]) ?_; rw [eF]; exact forkB_m (.inl (by decide)))
        · (refine T (by simp [q_leaf, q_Leaf, q_a, q_b, q_5, q_1, q_e, q_cut, q_bare, q_bar, q_fork, q_Fork, q_a61, q_ta, q_tbare, q_non, q_bl, q_int, q_t2]) ?_; rw [eF]; exact forkB_m (.inr big_no))
        · exact FR (by simp [obL, Nat.add_assoc])
      try dsimp only [List.set]
      rw [wp_seq]
      refine wp_acc (n := 3) M a11 (by rfl) ?_ (by decide) fun L12 S12 a12 => ?_
      · simp -dsimp [AllP]
        refine ⟨?_, ?_, ?_⟩
        · (refine T (by simp [q_leaf, q_Leaf, q_a, q_b, q_5, q_1, q_e, q_cut, q_bare, q_bar, q_fork, q_Fork, q_a61, q_ta, q_tbare, q_non, q_bl, q_int, q_t2]) ?_; rw [eF]; exact forkB_m (.inl rfl))
        · (refine T (by simp [q_leaf, q_Leaf, q_a, q_b, q_5, q_1, q_e, q_cut, q_bare, q_bar, q_fork, q_Fork, q_a61, q_ta, q_tbare, q_non, q_bl, q_int, q_t2]) ?_; rw [eF]; exact forkB_m (.inr rfl))
        · (refine T (by simp [q_leaf, q_Leaf, q_a, q_b, q_5, q_1, q_e, q_cut, q_bare, q_bar, q_fork, q_Fork, q_a61, q_ta, q_tbare, q_non, q_bl, q_int, q_t2]) ?_; rw [eF]; simp [forkB])
      try dsimp only [List.set]
      rw [wp_seq]
      have fl : f.log2 < 1920 := log_big (n := (f : Int)) (by omega) (Int.lt_of_le_of_lt c6 (by decide))
      have qn := fun S => q_num (S := S) (f := f) (by omega)
      refine wp_acc (n := 3) M a12 (by rfl) ?_ (by decide) fun L13 S13 a13 => ?_
      · simp -dsimp [AllP, fl]
        refine ⟨?_, ?_, ?_⟩
        · (refine T (by simp [q_leaf, q_Leaf, q_a, q_b, q_5, q_1, q_e, q_cut, q_bare, q_bar, q_fork, q_Fork, q_a61, q_ta, q_tbare, q_non, q_bl, q_int, q_t2]) ?_; rw [eF]; simp [forkB])
        · (refine T (by simp [q_leaf, q_Leaf, q_a, q_b, q_5, q_1, q_e, q_cut, q_bare, q_bar, q_fork, q_Fork, q_a61, q_ta, q_tbare, q_non, q_bl, q_int, q_t2, qn]) ?_; rw [eF]; simp [forkB])
        · (refine T (by simp [q_leaf, q_Leaf, q_a, q_b, q_5, q_1, q_e, q_cut, q_bare, q_bar, q_fork, q_Fork, q_a61, q_ta, q_tbare, q_non, q_bl, q_int, q_t2]) ?_; simp [endB, i14, i15])
      try dsimp only [List.set]
      rw [wp_sif]
      by_cases p3 : 0 < lo
      · have p4 : (0 : Int) < (lo : Int) := by omega
        have x1 := Int.emod_nonneg q (show (lo : Int) ≠ 0 by omega)
        have x2 := Int.emod_lt_of_pos q p4
        obtain ⟨j, hj1, hj2, hj3⟩ : ∃ j : Nat, (f : Int) - 1 - q % (lo : Int) = (j : Int) ∧ f - lo ≤ j ∧ j < f := ⟨((f : Int) - 1 - q % (lo : Int)).toNat, by omega, by omega, by omega⟩
        have c7 : (j : Int) ≤ 134217727 := by omega
        refine We.of (d := true) (S := S13) (by simp [p3]) ?_
        rw [if_pos rfl, wp_seq, wp_asg]
        refine We.of (d := .int ((2 ^ j : Nat) : Int)) (S := S13) (by simp [p3, hj1, c7]) ?_
        dsimp only [List.set]
        have x3 := xor_top (k := G) hj2
        have x4 : G / 2 ^ (f - lo) = key / 2 ^ (b - lo) := by
          rw [← hG, xor_low (by omega), hO, Nat.div_div_eq_div_mul, ← Nat.pow_add, show b - f + (f - lo) = b - lo by omega]
        have x5 : ¬ (((G ^^^ 2 ^ j : Nat) : Int)) / 2 ^ (((f : Int)).toNat - lo) = ((key / 2 ^ (b - lo) : Nat) : Int) := by
          rw [ft, show (((G ^^^ 2 ^ j : Nat) : Int)) / 2 ^ (f - lo) = (((G ^^^ 2 ^ j) / 2 ^ (f - lo) : Nat) : Int) by simp, ← x4]
          omega
        have x6 : Builtin.bitXor (G : Int) (2 ^ j) = ((G ^^^ 2 ^ j : Nat) : Int) := by rw [pow_int, bx]
        refine wp_acc (n := 2) M a13 (by rfl) ?_ (by decide) fun L14 S14 a14 => ?_
        · simp -dsimp [AllP, bx, x6]
          refine ⟨?_, ?_⟩
          all_goals refine T ?_ ?_
          all_goals first | (simp [q_leaf, q_Leaf, q_a, q_b, q_5, q_1, q_e, q_cut, q_bare, q_bar, q_fork, q_Fork, q_a61, q_ta, q_tbare, q_non, q_bl, q_int, q_t2]; done) | (rw [eF]; exact forkB_p x5)
        · simp -dsimp
          exact ⟨_, a14, by decide, by decide⟩
      · refine We.of (d := false) (S := S13) (by simp [p3]) ?_
        simp -dsimp
        exact ⟨_, a13, by decide, by decide⟩
    · have p1 : ¬ (lo : Int) + 1 < (b : Int) := by omega
      refine We.of (d := false) (S := S4) (by simp [p1]) ?_
      simp -dsimp
      exact ⟨_, a4, by decide, by decide⟩
  obtain ⟨d, S', e, L, n, rfl, z⟩ := w.ok
  exact ⟨L, S', n, e, z⟩

/-! bad steps -/
theorem stB_lo {b : Nat} : ∀ {l : List D} {lo : Int} {j : Nat} {e : Int} {m : D}, stB b lo l = true → l[j]? = some (.tup [.int e, m]) → lo < e
  | [], _, j, _, _, _, h => by simp at h
  | x :: r, lo, j, e, m, h, hj => by
    unfold stB at h
    split at h
    · rename_i z; cases z
    · rename_i d m2 r2 z
      cases z
      simp only [Bool.and_eq_true, decide_eq_true_eq] at h
      cases j with
      | zero =>
        simp only [List.getElem?_cons_zero, Option.some.injEq, D.tup.injEq, List.cons.injEq, D.int.injEq] at hj
        omega
      | succ j =>
        have := stB_lo h.2 (by simpa using hj)
        omega
    · cases h
theorem stB_inc {b : Nat} : ∀ {l : List D} {lo : Int} {i j : Nat} {d e : Int} {m m' : D}, stB b lo l = true → i < j → l[i]? = some (.tup [.int d, m]) → l[j]? = some (.tup [.int e, m']) → d < e
  | [], _, i, _, _, _, _, _, _, _, h, _ => by simp at h
  | x :: r, lo, i, j, d, e, m, m', h, hij, hi, hj => by
    obtain ⟨j, rfl⟩ : ∃ k, j = k + 1 := ⟨j - 1, by omega⟩
    unfold stB at h
    split at h
    · rename_i z; cases z
    · rename_i d2 m2 r2 z
      cases z
      simp only [Bool.and_eq_true, decide_eq_true_eq] at h
      cases i with
      | zero =>
        simp only [List.getElem?_cons_zero, Option.some.injEq, D.tup.injEq, List.cons.injEq, D.int.injEq] at hi
        have := stB_lo h.2 (by simpa using hj)
        omega
      | succ i => exact stB_inc (i := i) (j := j) (d := d) (e := e) (m := m) (m' := m') h.2 (by omega) (by simpa using hi) (by simpa using hj)
    · cases h
theorem stB_no {b : Nat} {l : List D} {lo : Int} (i j : Nat) {d e : Int} {m m' : D} (hij : i < j) (hi : l[i]? = some (.tup [.int d, m])) (hj : l[j]? = some (.tup [.int e, m'])) (h : e ≤ d) : stB b lo l = false := by
  cases c : stB b lo l with
  | false => rfl
  | true =>
    have := stB_inc c hij hi hj
    omega
def AbsX (b : Nat) (x : D) : Prop := ∀ (lo : Int) (r : List D), -1 ≤ lo → stB b lo (x :: r) = false
theorem stB_app {b : Nat} {x : D} (hx : AbsX b x) {r : List D} : ∀ (pre : List D) {lo : Int}, -1 ≤ lo → stB b lo (pre ++ x :: r) = false
  | [], lo, h => hx lo r h
  | p :: ps, lo, h => by
    rw [List.cons_append]
    unfold stB
    split
    · rename_i z; cases z
    · rename_i d m r2 z
      cases z
      by_cases c : lo < d
      · rw [stB_app hx ps (by omega), Bool.and_false]
      · simp [c]
    · rfl
structure AbsB (b : Nat) (S : Sto) (x : D) : Prop where
  ty : Ty2 S x
  no : AbsX b x
theorem Ty2.more {S G : Sto} {d : D} (h : Ty2 S d) : Ty2 (S ++ G) d := ⟨h.1.more, fun x y e => ⟨(h.2 x y e).1.more, (h.2 x y e).2.more⟩⟩
theorem absB_mono {b : Nat} (S G : Sto) (x : D) (h : AbsB b S x) : AbsB b (S ++ G) x := ⟨h.ty.more, h.no⟩
section
variable {b : Nat} {S : Sto}
theorem ab_nt {x : D} (h : Ty S x) (h2 : tB x = false) : AbsB b S x := ⟨⟨h, fun a c e => by rw [e] at h2; cases h2⟩, fun lo r _ => by
  cases x <;> first | rfl | cases h2⟩
theorem ab_ref {n : Nat} (h1 : obL (S[n]?) = true) : AbsB b S (.ref n) := by
  refine ab_nt ?_ rfl
  cases e : S[n]? with
  | none => rw [e] at h1; cases h1
  | some o =>
    rw [e] at h1
    cases o with
    | lst q => exact .inl ⟨q, e⟩
    | dk q => exact .inr ⟨q, e⟩
    | _ => cases h1
theorem ab_len {es : List D} (h : es.length ≠ 2) : AbsB b S (.tup es) := by
  refine ⟨⟨trivial, fun x y e => by cases e; exact (h rfl).elim⟩, fun lo r _ => ?_⟩
  unfold stB
  split
  · rename_i z; cases z
  · rename_i z; cases z; exact (h rfl).elim
  · rfl
theorem ab_dep {x m : D} (h : Ty S x) (hm : Ty S m) (hx : wB x = false) : AbsB b S (.tup [x, m]) := ⟨⟨trivial, fun a c e => by cases e; exact ⟨h, hm⟩⟩, fun lo r _ => by
  unfold stB
  split
  · rename_i z; cases z
  · rename_i z; cases z; cases hx
  · rfl⟩
theorem ab_num {d : Int} {m : D} (hm : Ty S m) (hx : ¬ (0 ≤ d ∧ d < b)) : AbsB b S (.tup [.int d, m]) := ⟨⟨trivial, fun a c e => by cases e; exact ⟨trivial, hm⟩⟩, fun lo r h => by
  unfold stB
  by_cases c : lo < d
  · have : ¬ d < (b : Int) := fun z => hx ⟨by omega, z⟩
    simp [this]
  · simp [c]⟩
theorem ab_mark {d : Int} {m : D} (hm : Ty S m) (hx : sB m = false) : AbsB b S (.tup [.int d, m]) := ⟨⟨trivial, fun a c e => by cases e; exact ⟨trivial, hm⟩⟩, fun lo r h => by
  unfold stB
  simp [hx]⟩
theorem ty_ref {n : Nat} (h1 : obL (S[n]?) = true) : Ty S (.ref n) := by
  cases e : S[n]? with
  | none => rw [e] at h1; cases h1
  | some o =>
    rw [e] at h1
    cases o with
    | lst q => exact .inl ⟨q, e⟩
    | dk q => exact .inr ⟨q, e⟩
    | _ => cases h1
end
theorem nfar_no : sB (.int (-1000000000000000000000000000000000000000000000000000000000000000000000000000000000000000000)) = false := by decide +kernel

theorem stp_mem {b : Nat} : ∀ {lo : Nat} {ss : Ss}, Stps b lo ss → ∀ p ∈ ss, p.1 < b ∧ Sz 100000 p.2
  | lo, [], _, p, hp => by cases hp
  | lo, q :: r, h, p, hp => by
    obtain ⟨h1, h2, h3, h4⟩ := h
    rcases List.mem_cons.mp hp with rfl | hp
    · exact ⟨h2, Sz.up h3 (by decide)⟩
    · exact stp_mem h4 p hp
theorem ixN_of {n i : Nat} (h : i < n) : ixN n (i : Int) = some i := by
  unfold ixN
  simp
  omega
theorem rp_of {S : Sto} {d : D} (h : isPt d = true) : Rp S d (ptPy d) := by
  cases d <;> first | (cases h; done) | exact .int _ | exact .str _
theorem ok_of {d : D} (h : okPt d = true) : PyData.canLay0 (ptPy d) = true := by
  cases d with
  | str z => simp only [ptPy, PyData.canLay0]; exact h
  | _ => simp [ptPy, PyData.canLay0]
theorem dp_of (d : D) : (ptPy d).depth = 0 := by
  cases d <;> simp [ptPy, PyData.depth]
theorem r_bad_steps {b : Nat} {ss : Ss} {S : Sto} (c : Int) (hb : b ≤ 60) (h : Stps b 0 ss) (hne : ss ≠ []) :
    ∃ xs G, m__law_bad_steps [.int c, .tup (stD ss), .int (b : Int)] S = .ok (.tup xs) (S ++ G) ∧ (∀ s ∈ xs, Ty2 (S ++ G) s) ∧ stB b (-1) xs = false := by
  have M := @absB_mono b
  obtain ⟨y1, y2⟩ := Stps.ty (S := S) h
  have yt := y2 (-1) (by omega)
  have hlen : ss.length ≤ 60 := by
    have := plc_le h (Nat.zero_le b)
    omega
  have hll : (stD ss).length = ss.length := List.length_map _
  have hpos : 0 < ss.length := List.length_pos_iff.mpr hne
  have at' : ∀ k (hk : k < ss.length), (stD ss)[k]? = some (.tup [.int ((ss[k].1 : Nat) : Int), ss[k].2]) := fun k hk => by
    unfold stD
    rw [List.getElem?_map, List.getElem?_eq_getElem hk]
    rfl
  have w : We (m__law_bad_steps [.int c, .tup (stD ss), .int (b : Int)] S) (fun d S' => ∃ xs G, d = .tup xs ∧ S' = S ++ G ∧ (∀ s ∈ xs, Ty2 (S ++ G) s) ∧ stB b (-1) xs = false) fun _ _ => False := by
    unfold m__law_bad_steps
    refine we_def ?_
    unfold b__law_bad_steps
    change Wp (sSeq _ _ [some (.int c), some (.tup (stD ss)), some (.int (b : Int)), none, none, none, none, none, none] S) _ _ _
    have q0 : (0 : Int) < (ss.length : Int) := by omega
    have q1 := Int.emod_nonneg (c / 11) (show (ss.length : Int) ≠ 0 by omega)
    have q2 := Int.emod_lt_of_pos (c / 11) q0
    obtain ⟨i, hi, i2⟩ : ∃ i : Nat, c / 11 % (ss.length : Int) = (i : Int) ∧ i < ss.length := ⟨(c / 11 % (ss.length : Int)).toNat, by omega, by omega⟩
    rw [wp_seq, wp_asg]
    refine We.of (d := .int (i : Int)) (S := S) (by simp [hll, hpos, hi]) ?_
    dsimp only [List.set]
    have ai := at' i i2
    have aI : atI (stD ss) (i : Int) = some (.tup [.int ((ss[i].1 : Nat) : Int), ss[i].2]) := by
      rw [atI_at (by omega) (by rw [hll]; omega)]
      exact ai
    have hm := (y1 _ (List.mem_of_getElem? ai)).2 _ _ rfl |>.2
    obtain ⟨hdb, hpt⟩ := stp_mem h _ (List.getElem_mem i2)
    generalize hd : ss[i].1 = d at *
    generalize hmm : ss[i].2 = m at *
    rw [wp_seq, wp_asgT]
    refine We.of (d := .tup [.int (d : Int), m]) (S := S) (by simp [aI]) ?_
    change Wp (sSeq _ _ [some (.int c), some (.tup (stD ss)), some (.int (b : Int)), some (.int (i : Int)), none, none, none, some (.int (d : Int)), some m] S) _ _ _
    have hm1 : ∀ {U : Sto}, Ty U m := fun {U} => by
      rcases hpt with ⟨n, rfl, _⟩ | ⟨z, rfl, _⟩ <;> trivial
    rw [wp_seq]
    refine wp_acc0 (n := 7) M ?_ (by decide) fun L1 S1 a1 => ?_
    · simp -dsimp [AllP]
      refine ⟨?_, ?_, ?_, ?_, ?_, ?_, ?_⟩
      all_goals first | exact ab_nt trivial rfl | (refine ab_ref ?_; simp [obL, Nat.add_assoc]; done) | (refine ab_len ?_; simp; done) | (refine ab_num hm1 ?_; omega) | exact ab_dep trivial hm1 rfl | exact ab_mark trivial rfl
    dsimp only [List.set]
    rw [wp_seq]
    refine wp_acc (n := 5) M a1 (by rfl) ?_ (by decide) fun L2 S2 a2 => ?_
    · simp -dsimp [AllP]
      refine ⟨?_, ?_, ?_, ?_, ?_⟩
      all_goals first | exact ab_nt trivial rfl | (refine ab_ref ?_; simp [obL, Nat.add_assoc]; done) | (refine ab_len ?_; simp; done) | (refine ab_num hm1 ?_; omega) | exact ab_dep trivial hm1 rfl | exact ab_mark trivial rfl
    dsimp only [List.set]
    rw [wp_seq]
    refine wp_acc (n := 5) M a2 (by rfl) ?_ (by decide) fun L3 S3 a3 => ?_
    · simp -dsimp [AllP]
      refine ⟨?_, ?_, ?_, ?_, ?_⟩
      · exact ab_mark trivial big_no
      · exact ab_mark trivial rfl
      · exact ab_mark trivial rfl
      · exact ab_mark (ty_ref (by simp [obL, Nat.add_assoc])) rfl
      · exact ab_mark trivial rfl
    dsimp only [List.set]
    rw [wp_seq]
    obtain ⟨k1, G1, e1, d1, _⟩ := r_deep (S := S3) (d := m) (p := ptPy m) (rp_of hpt.pt) (ok_of hpt.ok) (by rw [dp_of]; omega)
    obtain ⟨k2, G2, e2, d2, _⟩ := r_deep (S := S3 ++ G1) (d := .int (d : Int)) (.int _) (by simp [PyData.canLay0]) (by simp [PyData.depth])
    rw [List.append_assoc] at e2 d2
    refine wp_acc (n := 4) M a3 (by rfl) ?_ (by decide) fun L4 S4 a4 => ?_
    · simp -dsimp [AllP, e1, e2]
      refine ⟨?_, ?_, ?_, ?_⟩
      · exact ab_mark (by have := (d1.more (G := G2 ++ [Ob.dk []])).1; simpa using this) rfl
      · exact ab_nt (by have := (d2.more (G := [Ob.dk []])).1; simpa using this) rfl
      · exact ab_mark (ty_ref (by simp [obL, Nat.add_assoc])) rfl
      · exact ab_dep trivial hm1 rfl
    dsimp only [List.set]
    rw [wp_seq, wp_asg]
    refine We.of (d := .int 1000000000000000000000000000000000000000000000000000000000000000000000000000000000000000000) (S := S4) (by simp [m45]) ?_
    dsimp only [List.set]
    rw [wp_seq]
    refine wp_acc (n := 6) M a4 (by rfl) ?_ (by decide) fun L5 S5 a5 => ?_
    · simp -dsimp [AllP]
      refine ⟨?_, ?_, ?_, ?_, ?_, ?_⟩
      · exact ab_num hm1 (by omega)
      · exact ab_num hm1 (by omega)
      · exact ab_mark trivial far_no
      · exact ab_mark trivial nfar_no
      · exact ab_mark trivial rfl
      · exact ab_dep trivial hm1 rfl
    dsimp only [List.set]
    rw [wp_seq, wp_asg]
    refine We.of (d := .ref S5.length) (S := S5 ++ [.lst (stD ss)]) (by simp) ?_
    dsimp only [List.set]
    have hl6 : (S5 ++ [Ob.lst (stD ss)])[S5.length]? = some (.lst (stD ss)) := by simp
    obtain ⟨⟨G5, g5⟩, xs5, b1, b2, b3⟩ := a5
    have hl5 : (S5 ++ [Ob.lst (stD ss)])[L5]? = some (.lst xs5) := at_more b1
    have k5 := lst_of hl5
    have hset : ∀ xs, (S5 ++ [Ob.lst (stD ss)]).set S5.length (.lst xs) = S5 ++ [.lst xs] := fun xs => by simp
    have yS : ∀ xs, ∀ s ∈ stD ss, Ty2 (S5 ++ [Ob.lst xs]) s := fun xs s hs => ((Stps.ty (S := S5 ++ [Ob.lst xs]) h).1 s hs)
    rw [wp_seq]
    refine wp_mono (N := fun ρ S' => ∃ xs, ρ[6]? = some (some (.ref S5.length)) ∧ S' = S5 ++ [.lst xs] ∧ (∀ s ∈ xs, Ty2 S' s) ∧ stB b (-1) xs = false) (R0 := fun _ _ => False) (X := fun _ _ _ => False) ?_ ?_ (fun _ _ z => z.elim) (fun _ _ _ z => z.elim)
    · have t11 : c % 11 = 0 ∨ c % 11 = 1 ∨ c % 11 = 2 ∨ c % 11 = 3 ∨ (¬ c % 11 = 0 ∧ ¬ c % 11 = 1 ∧ ¬ c % 11 = 2 ∧ ¬ c % 11 = 3) := by omega
      have b64 : (i : Int) < 9223372036854775808 := by omega
      have bs : ss.length < 16777216 := by omega
      have ih : i < (stD ss).length := by omega
      have yi := yS
      have hyi : ∀ U : Sto, Ty2 U (.tup [.int (d : Int), m]) := fun U => ⟨trivial, fun x y e => by cases e; exact ⟨trivial, hm1⟩⟩
      -- any other: one of the odd steps
      have els : ∃ X, X ∈ xs5 ∧ atI xs5 (c / 77 % (xs5.length : Int)) = some X := by
        have x0 : (0 : Int) < (xs5.length : Int) := by omega
        have x1 := Int.emod_nonneg (c / 77) (show (xs5.length : Int) ≠ 0 by omega)
        have x2 := Int.emod_lt_of_pos (c / 77) x0
        have x3 : (c / 77 % (xs5.length : Int)).toNat < xs5.length := by omega
        exact ⟨xs5[(c / 77 % (xs5.length : Int)).toNat], List.getElem_mem x3, by rw [atI_at x1 x2, List.getElem?_eq_getElem x3]⟩
      obtain ⟨X, hX, eX⟩ := els
      have fX := b3 X hX
      have lx : 0 < xs5.length := by omega
      have fin5 : ∃ xs, S5 ++ [Ob.lst ((stD ss).set i X)] = S5 ++ [Ob.lst xs] ∧ (∀ s ∈ xs, Ty2 (S5 ++ [Ob.lst xs]) s) ∧ stB b (-1) xs = false := by
        refine ⟨_, rfl, fun s hs => ?_, ?_⟩
        · rcases List.mem_or_eq_of_mem_set hs with hs | rfl
          · exact yS _ s hs
          · exact fX.ty.more
        · rw [List.set_eq_take_append_cons_drop, if_pos ih]
          exact stB_app fX.no _ (by omega)
      have ix0 : ixN (stD ss).length (i : Int) = some i := ixN_of (by omega)
      have s0 : setI (.ref S5.length) (.int (i : Int)) X (S5 ++ [Ob.lst (stD ss)]) = some (S5 ++ [Ob.lst ((stD ss).set i X)]) := by
        generalize stD ss = L at *
        simp [setI, ix0]
      rcases t11 with t | t | t | t | ⟨t0, t1, t2, t3⟩
      · have hL : (stD ss).length < sizeLine := by
          show _ < 16777216
          omega
        rw [wp_sif]
        refine We.of (d := true) (S := S5 ++ [Ob.lst (stD ss)]) (by simp [t]) ?_
        rw [if_pos rfl, wp_expr]
        refine We.of (d := .non) (S := S5 ++ [Ob.lst ((stD ss).take i ++ [.tup [.int (d : Int), m]] ++ (stD ss).drop i)]) (by generalize stD ss = L at *; simp [aI, fInsert, hL, b64]) ?_
        refine ⟨_, rfl, rfl, fun s hs => ?_, ?_⟩
        · rcases List.mem_append.mp hs with hs | hs
          · rcases List.mem_append.mp hs with hs | hs
            · exact yS _ s (List.mem_of_mem_take hs)
            · rw [List.mem_singleton.mp hs]
              exact hyi _
          · exact yS _ s (List.mem_of_mem_drop hs)
        · refine stB_no i (i + 1) (by omega) (d := (d : Int)) (e := (d : Int)) (m := m) (m' := m) ?_ ?_ (Int.le_refl _)
          · rw [List.append_assoc, List.getElem?_append_right (by rw [List.length_take]; omega), List.length_take, show i - min i (stD ss).length = 0 by omega]
            rfl
          · rw [List.append_assoc, List.getElem?_append_right (by rw [List.length_take]; omega), List.length_take, show i + 1 - min i (stD ss).length = 1 by omega]
            show ((stD ss).drop i)[0]? = _
            rw [List.getElem?_drop]
            exact ai
      · rw [wp_sif]
        refine We.of (d := false) (S := S5 ++ [Ob.lst (stD ss)]) (by simp [t]) ?_
        rw [if_neg (by decide), wp_sif]
        by_cases hl1 : 1 < ss.length
        · refine We.of (d := true) (S := S5 ++ [Ob.lst (stD ss)]) (by simp [t, hll, show (1 : Int) < (ss.length : Int) by omega]) ?_
          rw [if_pos rfl, wp_expr]
          refine We.of (d := .non) (S := S5 ++ [Ob.lst ((stD ss).reverse)]) (by generalize stD ss = L at *; simp [fRevl, fLw]) ?_
          refine ⟨_, rfl, rfl, fun s hs => yS _ s (List.mem_reverse.mp hs), ?_⟩
          have l1 := at' (ss.length - 1) (by omega)
          have l2 := at' (ss.length - 2) (by omega)
          have inc := stB_inc yt (by omega : ss.length - 2 < ss.length - 1) l2 l1
          refine stB_no 0 1 (by omega) (m := (ss[ss.length - 1]'(by omega)).2) (m' := (ss[ss.length - 2]'(by omega)).2) ?_ ?_ (Int.le_of_lt inc)
          · rw [List.getElem?_reverse (by omega), hll]
            exact l1
          · rw [List.getElem?_reverse (by omega), hll]
            exact l2
        · refine We.of (d := false) (S := S5 ++ [Ob.lst (stD ss)]) (by simp [t, hll, show (ss.length : Int) ≤ 1 by omega]) ?_
          rw [if_neg (by decide), wp_sif]
          refine We.of (d := false) (S := S5 ++ [Ob.lst (stD ss)]) (by simp [t]) ?_
          rw [if_neg (by decide), wp_sif]
          refine We.of (d := false) (S := S5 ++ [Ob.lst (stD ss)]) (by simp [t]) ?_
          rw [if_neg (by decide)]
          (rw [wp_put]; refine We.of (d := X) (S := S5 ++ [Ob.lst (stD ss)]) (by generalize stD ss = L at *; simp [hl5, k5, eX, lx]) ?_; refine We.of (d := .ref S5.length) (S := S5 ++ [Ob.lst (stD ss)]) (by simp) ?_; refine We.of (d := .int (i : Int)) (S := S5 ++ [Ob.lst (stD ss)]) (by simp) ?_; rw [s0]; obtain ⟨xs, f1, f2, f3⟩ := fin5; exact ⟨xs, rfl, f1, by rw [f1]; exact f2, f3⟩)
      · rw [wp_sif]
        refine We.of (d := false) (S := S5 ++ [Ob.lst (stD ss)]) (by simp [t]) ?_
        rw [if_neg (by decide), wp_sif]
        refine We.of (d := false) (S := S5 ++ [Ob.lst (stD ss)]) (by simp [t]) ?_
        rw [if_neg (by decide), wp_sif]
        by_cases hl1 : i + 1 < ss.length
        · have hl2 : (i : Int) + 1 < (ss.length : Int) := by omega
          refine We.of (d := true) (S := S5 ++ [Ob.lst (stD ss)]) (by simp [t, hll, hl2]) ?_
          have an := at' (i + 1) hl1
          have aN : atI (stD ss) ((i : Int) + 1) = some (.tup [.int ((ss[i + 1].1 : Nat) : Int), ss[i + 1].2]) := by
            rw [atI_at (by omega) (by rw [hll]; omega)]
            exact an
          have inc := stB_inc yt (by omega : i < i + 1) ai an
          generalize ss[i + 1].1 = d2 at *
          have ym := (y1 _ (List.mem_of_getElem? an))
          generalize ss[i + 1].2 = m2 at *
          have ix1 : ixN (stD ss).length (i : Int) = some i := ixN_of (by omega)
          have ix2 : ixN ((stD ss).set i (.tup [.int (d2 : Int), m2])).length ((i : Int) + 1) = some (i + 1) := ixN_of (i := i + 1) (by rw [List.length_set]; omega)
          have s1 : setI (.ref S5.length) (.int (i : Int)) (.tup [.int (d2 : Int), m2]) (S5 ++ [Ob.lst (stD ss)]) = some (S5 ++ [Ob.lst ((stD ss).set i (.tup [.int (d2 : Int), m2]))]) := by
            generalize stD ss = L at *
            simp [setI, ix1]
          have s2 : setI (.ref S5.length) (.int ((i : Int) + 1)) (.tup [.int (d : Int), m]) (S5 ++ [Ob.lst ((stD ss).set i (.tup [.int (d2 : Int), m2]))]) = some (S5 ++ [Ob.lst (((stD ss).set i (.tup [.int (d2 : Int), m2])).set (i + 1) (.tup [.int (d : Int), m]))]) := by
            generalize (stD ss).set i (.tup [.int (d2 : Int), m2]) = L at *
            simp [setI, ix2]
          rw [if_pos rfl, wp_seq, wp_put]
          refine We.of (d := .tup [.int (d2 : Int), m2]) (S := S5 ++ [Ob.lst (stD ss)]) (by generalize stD ss = L at *; simp [aN]) ?_
          refine We.of (d := .ref S5.length) (S := S5 ++ [Ob.lst (stD ss)]) (by simp) ?_
          refine We.of (d := .int (i : Int)) (S := S5 ++ [Ob.lst (stD ss)]) (by simp) ?_
          rw [s1]
          show Wp _ _ _ _
          rw [wp_put]
          refine We.of (d := .tup [.int (d : Int), m]) (S := S5 ++ [Ob.lst ((stD ss).set i (.tup [.int (d2 : Int), m2]))]) (by generalize (stD ss).set i (.tup [.int (d2 : Int), m2]) = L2 at *; generalize stD ss = L at *; simp [aI]) ?_
          refine We.of (d := .ref S5.length) (S := S5 ++ [Ob.lst ((stD ss).set i (.tup [.int (d2 : Int), m2]))]) (by simp) ?_
          refine We.of (d := .int ((i : Int) + 1)) (S := S5 ++ [Ob.lst ((stD ss).set i (.tup [.int (d2 : Int), m2]))]) (by simp) ?_
          rw [s2]
          refine ⟨_, rfl, rfl, fun s hs => ?_, ?_⟩
          · rcases List.mem_or_eq_of_mem_set hs with hs | rfl
            · rcases List.mem_or_eq_of_mem_set hs with hs | rfl
              · exact yS _ s hs
              · exact yS _ _ (List.mem_of_getElem? an)
            · exact hyi _
          · refine stB_no i (i + 1) (by omega) (d := (d2 : Int)) (e := (d : Int)) (m := m2) (m' := m) ?_ ?_ (Int.le_of_lt inc)
            · rw [List.getElem?_set_ne (by omega), List.getElem?_set_self (by omega)]
            · rw [List.getElem?_set_self (by rw [List.length_set]; omega)]
        · have hl2 : ¬ (i : Int) + 1 < (ss.length : Int) := by omega
          refine We.of (d := false) (S := S5 ++ [Ob.lst (stD ss)]) (by simp [t, hll, hl2]) ?_
          rw [if_neg (by decide), wp_sif]
          refine We.of (d := false) (S := S5 ++ [Ob.lst (stD ss)]) (by simp [t]) ?_
          rw [if_neg (by decide)]
          (rw [wp_put]; refine We.of (d := X) (S := S5 ++ [Ob.lst (stD ss)]) (by generalize stD ss = L at *; simp [hl5, k5, eX, lx]) ?_; refine We.of (d := .ref S5.length) (S := S5 ++ [Ob.lst (stD ss)]) (by simp) ?_; refine We.of (d := .int (i : Int)) (S := S5 ++ [Ob.lst (stD ss)]) (by simp) ?_; rw [s0]; obtain ⟨xs, f1, f2, f3⟩ := fin5; exact ⟨xs, rfl, f1, by rw [f1]; exact f2, f3⟩)
      · rw [wp_sif]
        refine We.of (d := false) (S := S5 ++ [Ob.lst (stD ss)]) (by simp [t]) ?_
        rw [if_neg (by decide), wp_sif]
        refine We.of (d := false) (S := S5 ++ [Ob.lst (stD ss)]) (by simp [t]) ?_
        rw [if_neg (by decide), wp_sif]
        refine We.of (d := false) (S := S5 ++ [Ob.lst (stD ss)]) (by simp [t]) ?_
        rw [if_neg (by decide), wp_sif]
        by_cases hl1 : 0 < i
        · have hl2 : (0 : Int) < (i : Int) := by omega
          refine We.of (d := true) (S := S5 ++ [Ob.lst (stD ss)]) (by simp [t, hl1]) ?_
          have an := at' (i - 1) (by omega)
          have aN : atI (stD ss) ((i : Int) - 1) = some (.tup [.int ((ss[i - 1].1 : Nat) : Int), ss[i - 1].2]) := by
            rw [atI_at (by omega) (by rw [hll]; omega), show ((i : Int) - 1).toNat = i - 1 by omega]
            exact an
          generalize ss[i - 1].1 = d2 at *
          generalize ss[i - 1].2 = m2 at *
          have ix1 : ixN (stD ss).length (i : Int) = some i := ixN_of (by omega)
          have s1 : setI (.ref S5.length) (.int (i : Int)) (.tup [.int (d2 : Int), m]) (S5 ++ [Ob.lst (stD ss)]) = some (S5 ++ [Ob.lst ((stD ss).set i (.tup [.int (d2 : Int), m]))]) := by
            generalize stD ss = L at *
            simp [setI, ix1]
          have a0 : atI [D.int (d2 : Int), m2] 0 = some (.int (d2 : Int)) := rfl
          rw [if_pos rfl, wp_put]
          refine We.of (d := .tup [.int (d2 : Int), m]) (S := S5 ++ [Ob.lst (stD ss)]) (by generalize stD ss = L at *; simp [aN, a0]) ?_
          refine We.of (d := .ref S5.length) (S := S5 ++ [Ob.lst (stD ss)]) (by simp) ?_
          refine We.of (d := .int (i : Int)) (S := S5 ++ [Ob.lst (stD ss)]) (by simp) ?_
          rw [s1]
          refine ⟨_, rfl, rfl, fun s hs => ?_, ?_⟩
          · rcases List.mem_or_eq_of_mem_set hs with hs | rfl
            · exact yS _ s hs
            · exact ⟨trivial, fun x y e => by cases e; exact ⟨trivial, hm1⟩⟩
          · refine stB_no (i - 1) i (by omega) (d := (d2 : Int)) (e := (d2 : Int)) (m := m2) (m' := m) ?_ ?_ (Int.le_refl _)
            · rw [List.getElem?_set_ne (by omega)]
              exact an
            · rw [List.getElem?_set_self (by omega)]
        · refine We.of (d := false) (S := S5 ++ [Ob.lst (stD ss)]) (by simp [t, hl1]) ?_
          rw [if_neg (by decide)]
          (rw [wp_put]; refine We.of (d := X) (S := S5 ++ [Ob.lst (stD ss)]) (by generalize stD ss = L at *; simp [hl5, k5, eX, lx]) ?_; refine We.of (d := .ref S5.length) (S := S5 ++ [Ob.lst (stD ss)]) (by simp) ?_; refine We.of (d := .int (i : Int)) (S := S5 ++ [Ob.lst (stD ss)]) (by simp) ?_; rw [s0]; obtain ⟨xs, f1, f2, f3⟩ := fin5; exact ⟨xs, rfl, f1, by rw [f1]; exact f2, f3⟩)
      · rw [wp_sif]
        refine We.of (d := false) (S := S5 ++ [Ob.lst (stD ss)]) (by simp [t0]) ?_
        rw [if_neg (by decide), wp_sif]
        refine We.of (d := false) (S := S5 ++ [Ob.lst (stD ss)]) (by simp [t1]) ?_
        rw [if_neg (by decide), wp_sif]
        refine We.of (d := false) (S := S5 ++ [Ob.lst (stD ss)]) (by simp [t2]) ?_
        rw [if_neg (by decide), wp_sif]
        refine We.of (d := false) (S := S5 ++ [Ob.lst (stD ss)]) (by simp [t3]) ?_
        rw [if_neg (by decide)]
        (rw [wp_put]; refine We.of (d := X) (S := S5 ++ [Ob.lst (stD ss)]) (by generalize stD ss = L at *; simp [hl5, k5, eX, lx]) ?_; refine We.of (d := .ref S5.length) (S := S5 ++ [Ob.lst (stD ss)]) (by simp) ?_; refine We.of (d := .int (i : Int)) (S := S5 ++ [Ob.lst (stD ss)]) (by simp) ?_; rw [s0]; obtain ⟨xs, f1, f2, f3⟩ := fin5; exact ⟨xs, rfl, f1, by rw [f1]; exact f2, f3⟩)
    · rintro ρ S' ⟨xs, r6, rfl, z1, z2⟩
      have e6 : getV ρ 6 (S5 ++ [Ob.lst xs]) = .ok (.ref S5.length) (S5 ++ [Ob.lst xs]) := by
        unfold getV
        rw [r6]
      have e7 : lstAt (S5 ++ [Ob.lst xs]) S5.length = some xs := lst_of (by simp)
      rw [wp_ret]
      refine We.of (d := .tup xs) (S := S5 ++ [Ob.lst xs]) ?_ ⟨xs, G5 ++ [.lst xs], rfl, by rw [g5, List.append_assoc], by rw [← List.append_assoc, ← g5]; exact z1, z2⟩
      simp [e6, e7, fTuple, seqD]
  obtain ⟨d, S', e, xs, G, rfl, rfl, z⟩ := w.ok
  exact ⟨xs, G, e, z⟩

/-! what is none -/
structure BadT (b key : Nat) (S : Sto) (x : D) : Prop where
  no : ∀ G, m_is_slip [.int (b : Int), .int (key : Int), x] (S ++ G) = .ok (.bl false) (S ++ G)
theorem badT_mono {b key : Nat} (S G : Sto) (x : D) (h : BadT b key S x) : BadT b key (S ++ G) x := ⟨fun G2 => by
  rw [List.append_assoc]
  exact h.no _⟩
section
variable {b key : Nat} {S : Sto}
theorem bt_no {x : D} (h : Ty S x) (h2 : ∀ a c, x ≠ .tup [a, c]) : BadT b key S x := ⟨fun G => g_slip_no h.more h2⟩
theorem bt_nt {x : D} (h : Ty S x) (h2 : tB x = false) : BadT b key S x := bt_no h fun a c e => by rw [e] at h2; cases h2
theorem bt_len {es : List D} (h : es.length ≠ 2) : BadT b key S (.tup es) := bt_no trivial fun a c e => by cases e; exact h rfl
theorem bt_st {T E : D} (h : Ty S T) (h2 : tB T = false) : BadT b key S (.tup [T, E]) := ⟨fun G => g_slip_nt h.more h2⟩
theorem bt_ss {xs : List D} {E : D} (h : ∀ s ∈ xs, Ty2 S s) (h2 : stB b (-1) xs = false) : BadT b key S (.tup [.tup xs, E]) := ⟨fun G => g_slip_st (fun s hs => (h s hs).more) h2⟩
theorem bt_end {ss : Ss} {x : D} (h : BadE b key ss S x) : BadT b key S (.tup [.tup (stD ss), x]) := ⟨h.no⟩
theorem bt_ref {n : Nat} (h1 : obL (S[n]?) = true) : BadT b key S (.ref n) := bt_nt (ty_ref h1) rfl
end
theorem Ed.ne {b key lo : Nat} {e : List D} (h : Ed b key lo e) : ∃ (z : Str) (r : List D), e = .str z :: r ∧ (∀ d ∈ e, isPt d = true ∧ okPt d = true ∧ (∀ U, Ty U d) ∧ ∀ z, d = .str z → z.length ≤ 1000) ∧ e.length ≠ 2 := by
  have pt : ∀ {d : D} {k : Nat}, k ≤ 1000 → Sz k d → isPt d = true ∧ okPt d = true ∧ (∀ U, Ty U d) ∧ ∀ z, d = .str z → z.length ≤ 1000 := fun {d k} hk h => by
    have h' : Sz 100000 d := Sz.up h (by omega)
    refine ⟨h'.pt, h'.ok, fun U => ?_, fun z e => ?_⟩
    · rcases h with ⟨n, rfl, _⟩ | ⟨z, rfl, _⟩ <;> trivial
    · rcases h with ⟨n, rfl, _⟩ | ⟨y, rfl, h1, _⟩
      · cases e
      · cases e
        omega
  have lit : ∀ z : Str, (okPt (.str z) && decide (z.length ≤ 1000)) = true → isPt (D.str z) = true ∧ okPt (D.str z) = true ∧ (∀ U, Ty U (D.str z)) ∧ ∀ y, D.str z = .str y → y.length ≤ 1000 := fun z h => by
    simp only [Bool.and_eq_true, decide_eq_true_eq] at h
    exact ⟨rfl, h.1, fun _ => trivial, fun y e => by cases e; exact h.2⟩
  have nn : ∀ n : Nat, isPt (D.int (n : Int)) = true ∧ okPt (D.int (n : Int)) = true ∧ (∀ U, Ty U (D.int (n : Int))) ∧ ∀ y, D.int (n : Int) = .str y → y.length ≤ 1000 := fun n => ⟨rfl, rfl, fun _ => trivial, nofun⟩
  cases h with
  | bare => exact ⟨_, _, rfl, by simp only [List.mem_cons, List.not_mem_nil, or_false]; rintro d rfl; exact lit _ (by decide +kernel), by decide⟩
  | leaf h1 h2 h3 h4 =>
    refine ⟨_, _, rfl, ?_, by simp⟩
    simp only [List.mem_cons, List.not_mem_nil, or_false]
    rintro d (rfl | rfl | rfl)
    · exact lit _ (by decide +kernel)
    · exact nn _
    · exact pt (by decide) (.inr ⟨_, rfl, h3, h4⟩)
  | fork h1 h2 h3 h4 h5 h6 h7 =>
    refine ⟨_, _, rfl, ?_, by simp⟩
    simp only [List.mem_cons, List.not_mem_nil, or_false]
    rintro d (rfl | rfl | rfl | rfl | rfl)
    · exact lit _ (by decide +kernel)
    · exact nn _
    · exact nn _
    · exact pt (by decide) h6
    · exact pt (by decide) h7

theorem acc_at {P : Sto → D → Prop} {S0 S : Sto} {n L : Nat} (a : AccX P S0 S n L) (hn : 0 < n) (q : Int) : ∃ xs x, S[L]? = some (.lst xs) ∧ xs.length = n ∧ atI xs (q % (xs.length : Int)) = some x ∧ P S x := by
  obtain ⟨_, xs, h1, h2, h3⟩ := a
  have x0 : (0 : Int) < (xs.length : Int) := by omega
  have x1 := Int.emod_nonneg q (show (xs.length : Int) ≠ 0 by omega)
  have x2 := Int.emod_lt_of_pos q x0
  have x3 : (q % (xs.length : Int)).toNat < xs.length := by omega
  exact ⟨xs, _, h1, h2, by rw [atI_at x1 x2, List.getElem?_eq_getElem x3], h3 _ (List.getElem_mem x3)⟩
theorem steps_no {b key : Nat} {ss : Ss} {S : Sto} (h : Stps b 0 ss) : BadT b key S (.tup (stD ss)) := by
  by_cases c : ∃ x y, stD ss = [x, y]
  · obtain ⟨x, y, e⟩ := c
    match ss, e with
    | [p, q], e =>
      have hp := (stp_mem h p (by simp)).2
      rw [e]
      unfold stD at e
      simp only [List.map_cons, List.map_nil, List.cons.injEq] at e
      obtain ⟨e1, _⟩ := e
      rw [← e1]
      refine bt_ss (fun s hs => ?_) rfl
      simp only [List.mem_cons, List.not_mem_nil, or_false] at hs
      rcases hs with rfl | rfl
      · exact ⟨trivial, nofun⟩
      · rcases hp with ⟨n, e2, _⟩ | ⟨z, e2, _⟩ <;> rw [e2] <;> exact ⟨trivial, nofun⟩
  · exact bt_no trivial fun x y e => c ⟨x, y, D.tup.inj e⟩
theorem r_bad {b key : Nat} {ss : Ss} {e : List D} {S : Sto} (c : Int) (hb : b ≤ 60) (hk : key < 2 ^ b) (h : Stps b 0 ss) (he : Ed b key (plc 0 ss) e) :
    ∃ x G, m__law_bad [.int c, .int (b : Int), .int (key : Int), .tup (stD ss), .tup e, .int (plc 0 ss : Int)] S = .ok x (S ++ G) ∧ BadT b key (S ++ G) x := by
  have M := @badT_mono b key
  obtain ⟨z0, er, ee, ep, el⟩ := he.ne
  have eqs := fun S : Sto => eq_steps (S := S) h
  have se : ∀ U, ∀ s ∈ e, Ty2 U s := fun U s hs => ⟨(ep s hs).2.2.1 U, fun x y q => by
    have := (ep s hs).1
    rw [q] at this
    cases this⟩
  have st : stB b (-1) e = false := by rw [ee]; rfl
  have qe : ∀ U, Q U (.tup e) := fun U => q_tup fun d hd => ⟨⟨(ep d hd).2.2.1 U, fun z q => (ep d hd).2.2.2 z q, ptPy d, rp_of (ep d hd).1, ok_of (ep d hd).2.1, by rw [dp_of]; omega⟩, ptPy d, rp_of (ep d hd).1, ok_of (ep d hd).2.1, by rw [dp_of]; omega⟩
  have w : We (m__law_bad [.int c, .int (b : Int), .int (key : Int), .tup (stD ss), .tup e, .int (plc 0 ss : Int)] S) (fun x S' => ∃ G, S' = S ++ G ∧ BadT b key S' x) fun _ _ => False := by
    unfold m__law_bad
    refine we_def ?_
    unfold b__law_bad
    change Wp (sSeq _ _ [some (.int c), some (.int (b : Int)), some (.int (key : Int)), some (.tup (stD ss)), some (.tup e), some (.int (plc 0 ss : Int)), none, none] S) _ _ _
    rw [wp_seq, wp_asg]
    refine We.of (d := .int (c / 4)) (S := S) (by simp) ?_
    dsimp only [List.set]
    rw [wp_seq, wp_sif]
    by_cases k0 : c % 4 = 0 ∧ ss ≠ []
    · obtain ⟨k0, kn⟩ := k0
      refine We.of (d := true) (S := S) (by have q := eqs S; generalize stD ss = L at *; simp [k0, q, kn]) ?_
      rw [if_pos rfl, wp_ret]
      obtain ⟨xs, G, e1, x1, x2⟩ := r_bad_steps (S := S) (c / 4) hb h kn
      refine We.of (d := .tup [.tup xs, .tup e]) (S := S ++ G) (by simp [e1]) ⟨G, rfl, bt_ss x1 x2⟩
    refine We.of (d := false) (S := S) (by
      have q := eqs S
      by_cases k1 : c % 4 = 0
      · have k2 : ss = [] := Classical.byContradiction fun z => k0 ⟨k1, z⟩
        generalize stD ss = L at *
        simp [k1, q, k2]
      · generalize stD ss = L at *
        simp [k1]) ?_
    rw [if_neg (by decide), ev_skip, wp_nx]
    rw [wp_seq, wp_sif]
    by_cases k1 : c % 4 = 1
    · refine We.of (d := true) (S := S) (by simp [k1]) ?_
      obtain ⟨L, S', n, e1, a1, n1, n2⟩ := r_bad_leaves (S := S) (c / 4 / 64) hb hk h
      obtain ⟨xs, x, h1, h2, h3, h4⟩ := acc_at a1 n1 (c / 4)
      have h5 := lst_of h1
      have hx0 : 0 < xs.length := by omega
      obtain ⟨⟨G, rfl⟩, _⟩ := a1
      rw [if_pos rfl, wp_seq, wp_asg]
      refine We.of (d := .ref L) (S := S ++ G) (by simp [e1]) ?_
      dsimp only [List.set]
      rw [wp_ret]
      exact We.of (d := .tup [.tup (stD ss), x]) (S := S ++ G) (by simp [h1, h5, h3, hx0]) ⟨G, rfl, bt_end h4⟩
    refine We.of (d := false) (S := S) (by simp [k1]) ?_
    rw [if_neg (by decide), ev_skip, wp_nx]
    rw [wp_seq, wp_sif]
    by_cases k2 : c % 4 = 2
    · refine We.of (d := true) (S := S) (by simp [k2]) ?_
      obtain ⟨L, S', n, e1, a1, n1, n2⟩ := r_bad_forks (S := S) (c / 4 / 64) hb hk h
      obtain ⟨xs, x, h1, h2, h3, h4⟩ := acc_at a1 n1 (c / 4)
      have h5 := lst_of h1
      have hx0 : 0 < xs.length := by omega
      obtain ⟨⟨G, rfl⟩, _⟩ := a1
      rw [if_pos rfl, wp_seq, wp_asg]
      refine We.of (d := .ref L) (S := S ++ G) (by simp [e1]) ?_
      dsimp only [List.set]
      rw [wp_ret]
      exact We.of (d := .tup [.tup (stD ss), x]) (S := S ++ G) (by simp [h1, h5, h3, hx0]) ⟨G, rfl, bt_end h4⟩
    refine We.of (d := false) (S := S) (by simp [k2]) ?_
    rw [if_neg (by decide), ev_skip, wp_nx]
    try dsimp only [List.set]
    rw [wp_seq]
    have sn := fun S => steps_no (key := key) (S := S) h
    have BE := fun {S : Sto} {x : D} (z : BadE b key ss S x) => bt_end z
    have FR := fun {S : Sto} {n : Nat} => @badE_ref b key ss S n hb h
    have FN := fun {S : Sto} {x : D} => @badE_nt b key ss S hb h x
    have FT : ∀ S, BadE b key ss S (.tup [.tup e]) := fun S => badE_tup hb h (fun d hd => by rw [List.mem_singleton.mp hd]; exact qe S) (by simp [endB, isLit])
    have y0 : stB b (-1) [.tup (stD ss)] = false := by
      cases ss with
      | nil => rfl
      | cons p r => rfl
    have y1 : ∀ U, ∀ s ∈ [D.tup (stD ss)], Ty2 U s := fun U s hs => by
      rw [List.mem_singleton.mp hs]
      refine ⟨trivial, fun x y q => ?_⟩
      have q' : stD ss = [x, y] := D.tup.inj q
      match ss, q' with
      | [p, r], q' =>
        unfold stD at q'
        simp only [List.map_cons, List.map_nil, List.cons.injEq, and_true] at q'
        rw [← q'.1, ← q'.2]
        exact ⟨trivial, trivial⟩
    generalize stD ss = L at *
    refine wp_acc0 (n := 9) M ?_ (by decide) fun L1 S1 a1 => ?_
    · simp -dsimp [AllP]
      refine ⟨?_, ?_, ?_, ?_, ?_, ?_, ?_, ?_, ?_⟩
      · exact bt_ref (by simp [obL, Nat.add_assoc])
      · exact bt_len (by simp)
      · exact bt_len (by simp)
      · exact bt_st (ty_ref (by simp [obL, Nat.add_assoc])) rfl
      · exact BE (FR (by simp [obL, Nat.add_assoc]))
      · exact bt_nt trivial rfl
      · exact bt_nt trivial rfl
      · exact bt_nt trivial rfl
      · exact bt_nt trivial rfl
    dsimp only [List.set]
    rw [wp_seq]
    refine wp_acc (n := 11) M a1 (by rfl) ?_ (by decide) fun L2 S2 a2 => ?_
    · simp -dsimp [AllP]
      refine ⟨?_, ?_, ?_, ?_, ?_, ?_, ?_, ?_, ?_, ?_, ?_⟩
      · exact bt_len (by simp)
      · exact bt_ref (by simp [obL, Nat.add_assoc])
      · exact bt_ref (by simp [obL, Nat.add_assoc])
      · exact bt_len (by simp)
      · exact bt_nt trivial rfl
      · exact bt_nt trivial rfl
      · exact bt_ss (se _) st
      · exact sn _
      · exact bt_len el
      · exact bt_st trivial rfl
      · exact BE (FN trivial rfl)
    dsimp only [List.set]
    rw [wp_seq]
    obtain ⟨k3, G3, e3, d3, _⟩ := r_deep (S := S2) (d := .tup e) (p := .tuple (e.map ptPy)) (.tup (rps_pts fun d hd => (ep d hd).1)) (by rw [PyData.canLay0]; exact canLay_pts e fun d hd => (ep d hd).2.1) (by rw [PyData.depth, depth_pts]; decide)
    refine wp_acc (n := 5) M a2 (by rfl) ?_ (by decide) fun L3 S3 a3 => ?_
    · simp -dsimp [AllP, e3]
      refine ⟨?_, ?_, ?_, ?_, ?_⟩
      · exact BE (FT _)
      · exact bt_ss (y1 _) y0
      · exact bt_nt (by have := (d3.more (G := [Ob.dk []])).1; simpa using this) rfl
      · exact bt_st trivial rfl
      · exact bt_st (ty_ref (by simp [obL, Nat.add_assoc])) rfl
    dsimp only [List.set]
    obtain ⟨xs, x, h1, h2, h3, h4⟩ := acc_at a3 (by decide) (c / 4)
    have h5 := lst_of h1
    have hx0 : 0 < xs.length := by omega
    obtain ⟨⟨G, rfl⟩, _⟩ := a3
    rw [wp_ret]
    exact We.of (d := x) (S := S ++ G) (by simp [h1, h5, h3, hx0]) ⟨G, rfl, h4⟩
  obtain ⟨x, S', e1, G, rfl, z⟩ := w.ok
  exact ⟨x, G, e1, z⟩

/-! what is one -/
def GoodE (b key : Nat) (ss : Ss) (x : D) : Prop := ∀ U, m_is_slip [.int (b : Int), .int (key : Int), .tup [.tup (stD ss), x]] U = .ok (.bl true) U
theorem goodE {b key : Nat} {ss : Ss} (hb : b ≤ 60) (h : Stps b 0 ss) {es : List D} (h1 : ∀ U, ∀ d ∈ es, Q U d) (h2 : endB b key (plc 0 ss) (decide (ss = [])) es = true) : GoodE b key ss (.tup es) := fun G => by
  rw [g_slip (E := .tup es) hb h trivial fun _ e => by cases e; exact Te.of (h1 G)]
  show R.ok (D.bl (endB b key (plc 0 ss) (decide (ss = [])) es)) G = _
  rw [h2]
theorem ge_leaf {b key k : Nat} {ss : Ss} {z : Str} (hb : b ≤ 60) (h : Stps b 0 ss) (hk : k < 2 ^ b) (he : k / 2 ^ (b - plc 0 ss) = key / 2 ^ (b - plc 0 ss)) (hz : z.length ≤ 60) (ho : PyData.strOk z = true) : GoodE b key ss (.tup [.str "leaf", .int (k : Int), .str z]) := by
  refine goodE hb h (fun U d hd => ?_) ?_
  · simp only [List.mem_cons, List.not_mem_nil, or_false] at hd
    rcases hd with rfl | rfl | rfl
    · exact q_leaf
    · exact q_int
    · exact q_str (by omega) ho
  · rw [show endB b key (plc 0 ss) (decide (ss = [])) [.str "leaf", .int (k : Int), .str z] = leafB b key (plc 0 ss) [.str "leaf", .int (k : Int), .str z] by simp [endB, i1], leafB_eq, kb_yes hk, show (k : Int) / 2 ^ (b - plc 0 ss) = ((k / 2 ^ (b - plc 0 ss) : Nat) : Int) by simp, he]
    unfold vB
    simp only [hz, decide_true, Bool.and_self]
theorem ge_fork {b key f g : Nat} {ss : Ss} {m1 m2 : D} (hb : b ≤ 60) (h : Stps b 0 ss) (f1 : plc 0 ss < f) (f2 : f < b) (g1 : g < 2 ^ f) (g2 : g / 2 ^ (f - plc 0 ss) = key / 2 ^ (b - plc 0 ss)) (g3 : g ≠ key / 2 ^ (b - f)) (s1 : sB m1 = true) (s2 : sB m2 = true) (q1 : ∀ U, Q U m1) (q2 : ∀ U, Q U m2) : GoodE b key ss (.tup [.str "fork", .int (f : Int), .int (g : Int), m1, m2]) := by
  refine goodE hb h (fun U d hd => ?_) ?_
  · simp only [List.mem_cons, List.not_mem_nil, or_false] at hd
    rcases hd with rfl | rfl | rfl | rfl | rfl
    · exact q_fork
    · exact q_int
    · exact q_int
    · exact q1 U
    · exact q2 U
  · have c1 : ((plc 0 ss : Nat) : Int) < (f : Int) := by omega
    have c2 : (f : Int) < (b : Int) := by omega
    have c3 : (0 : Int) ≤ (g : Int) := by omega
    have c4 : (g : Int) < 2 ^ f := by rw [pow_int]; omega
    have c5 : ¬ (g : Int) = ((key / 2 ^ (b - f) : Nat) : Int) := by omega
    have ft : ((f : Int)).toNat = f := rfl
    rw [show endB b key (plc 0 ss) (decide (ss = [])) [.str "fork", .int (f : Int), .int (g : Int), m1, m2] = forkB b key (plc 0 ss) [.str "fork", .int (f : Int), .int (g : Int), m1, m2] by simp [endB, i12, i13], forkB_eq, ft, s1, s2, show (g : Int) / 2 ^ (f - plc 0 ss) = ((g / 2 ^ (f - plc 0 ss) : Nat) : Int) by simp, g2]
    generalize ((key / 2 ^ (b - f) : Nat) : Int) = R1 at *
    simp only [c1, c2, c3, c4, c5, ne_eq, not_false_eq_true, decide_true, Bool.and_self]
theorem xor_below {k j m : Nat} (h : j < m) : (k ^^^ 2 ^ j) / 2 ^ m = k / 2 ^ m := by
  have e1 : (k ^^^ 2 ^ j) >>> m = (k >>> m) ^^^ (2 ^ j) >>> m := Nat.shiftRight_xor_distrib ..
  rw [Nat.shiftRight_eq_div_pow, Nat.shiftRight_eq_div_pow, Nat.shiftRight_eq_div_pow, show 2 ^ j / 2 ^ m = 0 from Nat.div_eq_of_lt (Nat.pow_lt_pow_right (by decide) h), Nat.xor_zero] at e1
  exact e1
theorem wp_app1 {b key n : Nat} {ss : Ss} {k : Nat} {items : Ma} {ρ : Env'} {S : Sto} {xs : List D} {x : D} {N : Env' → Sto → Prop} {R0 : D → Sto → Prop} {X : Exn → Env' → Sto → Prop} (hr : mVar k ρ (S ++ [.lst xs]) = .ok (.ref S.length) (S ++ [.lst xs])) (e : items ρ (S ++ [.lst xs]) = .ok [x] (S ++ [.lst xs])) (hl : xs.length ≤ 100) (f : N ρ (S ++ [.lst (xs ++ [x])])) : Wp (sExpr (mBM ckL fAppend (mVar k) items) ρ (S ++ [.lst xs])) N R0 X := by
  have h1 : (S ++ [Ob.lst xs])[S.length]? = some (.lst xs) := by simp
  have h2 := lst_of h1
  have hl2 : xs.length < sizeLine := by show _ < 16777216; omega
  have e2 : mBM ckL fAppend (mVar k) items ρ (S ++ [.lst xs]) = .ok .non (S ++ [.lst (xs ++ [x])]) := by
    unfold mBM
    rw [hr]
    show (if ckL (.ref S.length) (S ++ [Ob.lst xs]) = true then _ else _) = _
    rw [show ckL (.ref S.length) (S ++ [Ob.lst xs]) = true by simp [ckL, h2], if_pos rfl, e]
    simp [R.bind, R.ofO, fAppend, hl2]
  rw [wp_expr, e2]
  exact f
structure GL (b key : Nat) (ss : Ss) (S : Sto) (n : Nat) (q : Int) (ρ : Env') (S' : Sto) : Prop where
  ex : ∃ xs o, ρ = [some (.int (b : Int)), some (.int (key : Int)), some (.tup (stD ss)), some (.int (plc 0 ss : Int)), some (.int q), some (.ref S.length), o] ∧ S' = S ++ [.lst xs] ∧ (∀ x ∈ xs, GoodE b key ss x) ∧ 0 < xs.length ∧ xs.length ≤ n
theorem r_good {b key : Nat} {ss : Ss} {S : Sto} (q : Int) (hb : b ≤ 60) (hk : key < 2 ^ b) (h : Stps b 0 ss) :
    ∃ x G, m__law_good [.int (b : Int), .int (key : Int), .tup (stD ss), .int (plc 0 ss : Int), .int q] S = .ok x (S ++ G) ∧ ∀ U, m_is_slip [.int (b : Int), .int (key : Int), x] U = .ok (.bl true) U := by
  have pl := (plc_le h (Nat.zero_le b)).1
  obtain ⟨z, ez, z1, z2⟩ := r_text q S
  have zo : PyData.strOk z = true := (Sz.ok (b := 60) (.inr ⟨_, rfl, z1, z2⟩) : okPt (.str z) = true)
  have c1 : (b : Int) ≤ 134217727 := by omega
  have w : We (m__law_good [.int (b : Int), .int (key : Int), .tup (stD ss), .int (plc 0 ss : Int), .int q] S) (fun x S' => ∃ G, S' = S ++ G ∧ ∀ U, m_is_slip [.int (b : Int), .int (key : Int), x] U = .ok (.bl true) U) fun _ _ => False := by
    unfold m__law_good
    refine we_def ?_
    unfold b__law_good
    change Wp (sSeq _ _ [some (.int (b : Int)), some (.int (key : Int)), some (.tup (stD ss)), some (.int (plc 0 ss : Int)), some (.int q), none, none] S) _ _ _
    refine wp_sq (GL b key ss S 3 q) ?_ ?_
    · rw [wp_asg]
      refine We.of (d := .ref S.length) (S := S ++ [.lst [.tup [.str "leaf", .int (key : Int), .str ""], .tup [.str "leaf", .int (key : Int), .str (Txt.mul "a" 60)], .tup [.str "leaf", .int (key : Int), .str z]]]) ?_ ⟨_, none, rfl, rfl, ?_, by simp, by simp⟩
      · simp [ez, show ("a" : Str).length ≤ 100 by decide +kernel]
      · simp only [List.mem_cons, List.not_mem_nil, or_false]
        rintro x (rfl | rfl | rfl)
        · exact ge_leaf hb h hk rfl (by decide +kernel) (by decide +kernel)
        · exact ge_leaf hb h hk rfl (by decide +kernel) (by decide +kernel)
        · exact ge_leaf hb h hk rfl z1 zo
    rintro ρ S' ⟨xs, o, rfl, rfl, g1, g2, g3⟩
    refine wp_sq (GL b key ss S 4 q) ?_ ?_
    · rw [wp_sif]
      have eqs := eq_steps (S := S ++ [.lst xs]) h
      by_cases k0 : ss = []
      · refine We.of (d := true) (S := S ++ [.lst xs]) (by generalize stD ss = L at *; simp [eqs, k0]) ?_
        rw [if_pos rfl]
        refine wp_app1 (b := b) (key := key) (n := 0) (ss := ss) (x := .tup [.str "bare"]) (by rfl) (by simp) (by omega) ⟨_, o, rfl, rfl, fun x hx => ?_, by simp, by simp; omega⟩
        rcases List.mem_append.mp hx with hx | hx
        · exact g1 x hx
        · rw [List.mem_singleton.mp hx]
          refine goodE hb h (fun U d hd => by rw [List.mem_singleton.mp hd]; exact q_bare) ?_
          have : isLit (.str "bare") "bare" = true := by decide +kernel
          simp [endB, i6, i7, this, k0]
      · refine We.of (d := false) (S := S ++ [.lst xs]) (by generalize stD ss = L at *; simp [eqs, k0]) ?_
        rw [if_neg (by decide), ev_skip, wp_nx]
        exact ⟨xs, o, rfl, rfl, g1, g2, by omega⟩
    rintro ρ S' ⟨xs, o, rfl, rfl, g1, g2, g3⟩
    refine wp_sq (GL b key ss S 5 q) ?_ ?_
    · rw [wp_sif]
      by_cases k0 : plc 0 ss < b
      · have k1 : (plc 0 ss : Int) < (b : Int) := by omega
        have x1 := Int.emod_nonneg q (show (b : Int) - (plc 0 ss : Int) ≠ 0 by omega)
        have x2 := Int.emod_lt_of_pos q (show (0 : Int) < (b : Int) - (plc 0 ss : Int) by omega)
        obtain ⟨j, hj, hj2⟩ : ∃ j : Nat, q % ((b : Int) - (plc 0 ss : Int)) = (j : Int) ∧ j < b - plc 0 ss := ⟨(q % ((b : Int) - (plc 0 ss : Int))).toNat, by omega, by omega⟩
        have cj : (j : Int) ≤ 134217727 := by omega
        have x6 : Builtin.bitXor (key : Int) (2 ^ j) = ((key ^^^ 2 ^ j : Nat) : Int) := by rw [pow_int, bx]
        refine We.of (d := true) (S := S ++ [.lst xs]) (by simp [k0]) ?_
        rw [if_pos rfl]
        refine wp_app1 (b := b) (key := key) (n := 0) (ss := ss) (x := .tup [.str "leaf", .int ((key ^^^ 2 ^ j : Nat) : Int), .str "b"]) (by rfl) (by generalize plc 0 ss = lo at *; simp [k0, hj, cj, x6]) (by omega) ⟨_, o, rfl, rfl, fun x hx => ?_, by simp, by simp; omega⟩
        rcases List.mem_append.mp hx with hx | hx
        · exact g1 x hx
        · rw [List.mem_singleton.mp hx]
          exact ge_leaf hb h (Nat.xor_lt_two_pow hk (Nat.pow_lt_pow_right (by decide) (by omega))) (xor_below hj2) (by decide +kernel) (by decide +kernel)
      · refine We.of (d := false) (S := S ++ [.lst xs]) (by simp [k0]) ?_
        rw [if_neg (by decide), ev_skip, wp_nx]
        exact ⟨xs, o, rfl, rfl, g1, g2, by omega⟩
    rintro ρ S' ⟨xs, o, rfl, rfl, g1, g2, g3⟩
    refine wp_sq (GL b key ss S 7 q) ?_ ?_
    · rw [wp_sif]
      by_cases k0 : plc 0 ss + 1 < b
      · have k1 : (plc 0 ss : Int) + 1 < (b : Int) := by omega
        have x1 := Int.emod_nonneg q (show (b : Int) - 1 - (plc 0 ss : Int) ≠ 0 by omega)
        have x2 := Int.emod_lt_of_pos q (show (0 : Int) < (b : Int) - 1 - (plc 0 ss : Int) by omega)
        obtain ⟨f, hf, f1, f2⟩ : ∃ f : Nat, (plc 0 ss : Int) + 1 + q % ((b : Int) - 1 - (plc 0 ss : Int)) = (f : Int) ∧ plc 0 ss < f ∧ f < b := ⟨((plc 0 ss : Int) + 1 + q % ((b : Int) - 1 - (plc 0 ss : Int))).toNat, by omega, by omega, by omega⟩
        have p2 : (plc 0 ss : Int) < (b : Int) - 1 := by omega
        have c4 : ((b : Int) - (f : Int)).toNat = b - f := by omega
        have c5 : (f : Int) ≤ (b : Int) := by omega
        obtain ⟨O, hO⟩ : ∃ O : Nat, O = key / 2 ^ (b - f) := ⟨_, rfl⟩
        have eO : (key : Int) / 2 ^ (b - f) = (O : Int) := by rw [hO]; simp
        have O2 : O < 2 ^ f := by
          rw [hO, Nat.div_lt_iff_lt_mul (Nat.two_pow_pos _), ← Nat.pow_add, show f + (b - f) = b by omega]
          exact hk
        have G2 : O ^^^ 1 < 2 ^ f := Nat.xor_lt_two_pow O2 (Nat.one_lt_two_pow (by omega))
        have G3 : (O ^^^ 1) / 2 ^ (f - plc 0 ss) = key / 2 ^ (b - plc 0 ss) := by
          rw [xor_low (by omega), hO, Nat.div_div_eq_div_mul, ← Nat.pow_add, show b - f + (f - plc 0 ss) = b - plc 0 ss by omega]
        have G4 : O ^^^ 1 ≠ key / 2 ^ (b - f) := fun z => xor_one (z.trans hO.symm)
        refine We.of (d := true) (S := S ++ [.lst xs]) (by simp [k1]) ?_
        rw [if_pos rfl, wp_seq, wp_asg]
        refine We.of (d := .int (f : Int)) (S := S ++ [.lst xs]) (by simp [p2, hf]) ?_
        dsimp only [List.set]
        rw [wp_seq]
        refine wp_app1 (b := b) (key := key) (n := 0) (ss := ss) (x := .tup [.str "fork", .int (f : Int), .int ((O ^^^ 1 : Nat) : Int), .int 0, .int 999999999999999999999999999999999999999999999999999999999999]) (by rfl) (by simp [c4, c5, eO, bx1]) (by omega) ?_
        refine wp_app1 (b := b) (key := key) (n := 0) (ss := ss) (x := .tup [.str "fork", .int (f : Int), .int ((O ^^^ 1 : Nat) : Int), .str "", .str "x"]) (by rfl) (by simp [c4, c5, eO, bx1]) (by simp; omega) ⟨_, _, rfl, rfl, fun x hx => ?_, by simp, by simp; omega⟩
        rcases List.mem_append.mp hx with hx | hx
        · rcases List.mem_append.mp hx with hx | hx
          · exact g1 x hx
          · rw [List.mem_singleton.mp hx]
            exact ge_fork hb h f1 f2 G2 G3 G4 (by decide +kernel) (by decide +kernel) (fun _ => q_int) (fun _ => q_int)
        · rw [List.mem_singleton.mp hx]
          exact ge_fork hb h f1 f2 G2 G3 G4 rfl rfl (fun _ => q_e) (fun _ => q_lit (by decide +kernel))
      · have k1 : ¬ (plc 0 ss : Int) + 1 < (b : Int) := by omega
        refine We.of (d := false) (S := S ++ [.lst xs]) (by simp [k1]) ?_
        rw [if_neg (by decide), ev_skip, wp_nx]
        exact ⟨xs, o, rfl, rfl, g1, g2, by omega⟩
    rintro ρ S' ⟨xs, o, rfl, rfl, g1, g2, g3⟩
    have x0 : (0 : Int) < (xs.length : Int) := by omega
    have x1 := Int.emod_nonneg (q / 7) (show (xs.length : Int) ≠ 0 by omega)
    have x2 := Int.emod_lt_of_pos (q / 7) x0
    have x3 : (q / 7 % (xs.length : Int)).toNat < xs.length := by omega
    have x4 : atI xs (q / 7 % (xs.length : Int)) = some xs[(q / 7 % (xs.length : Int)).toNat] := by rw [atI_at x1 x2, List.getElem?_eq_getElem x3]
    have x5 := g1 _ (List.getElem_mem x3)
    generalize xs[(q / 7 % (xs.length : Int)).toNat] = y at *
    have l1 : (S ++ [Ob.lst xs])[S.length]? = some (.lst xs) := by simp
    have l2 := lst_of l1
    rw [wp_ret]
    exact We.of (d := .tup [.tup (stD ss), y]) (S := S ++ [.lst xs]) (by generalize stD ss = L at *; simp [l2, x4, g2]) ⟨_, rfl, x5⟩
  obtain ⟨x, S', e1, G, rfl, z⟩ := w.ok
  exact ⟨x, G, e1, z⟩

theorem cut_len (ns : List Int) (a b : Nat) : (Eng.cutD ns (some (a : Int)) (some (b : Int))).length ≤ b - a := by
  unfold Eng.cutD
  rw [List.length_take, HT.sIx_nat, HT.sIx_nat, List.length_drop]
  omega
theorem ed_good {b key : Nat} {ss : Ss} {e : List D} (hb : b ≤ 60) (h : Stps b 0 ss) (he : Ed b key (plc 0 ss) e) : GoodE b key ss (.tup e) := by
  have sz : ∀ {m : D}, Sz 61 m → sB m = true ∧ ∀ U, Q U m := fun {m} hm => by
    have ho := Sz.ok hm
    rcases hm with ⟨n, rfl, h1, h2⟩ | ⟨z, rfl, h1, h2⟩
    · exact ⟨by simp [sB, h1, h2], fun _ => q_int⟩
    · exact ⟨rfl, fun _ => q_str (by omega) ho⟩
  cases he with
  | bare h0 =>
    have hs : ss = [] := by
      rcases plc_last 0 ss with z | ⟨q, z1, z2⟩
      · exact z
      · omega
    refine goodE hb h (fun U d hd => by rw [List.mem_singleton.mp hd]; exact q_bare) ?_
    have : isLit (.str "bare") "bare" = true := by decide +kernel
    simp [endB, i6, i7, this, hs]
  | leaf h1 h2 h3 h4 => exact ge_leaf hb h h1 h2 h3 (Sz.ok (b := 60) (.inr ⟨_, rfl, h3, h4⟩) : okPt (.str _) = true)
  | fork h1 h2 h3 h4 h5 h6 h7 => exact ge_fork hb h h1 h2 h3 h4 h5 (sz h6).1 (sz h7).1 (sz h6).2 (sz h7).2
theorem law_true (ns : List Int) (hns : ns.length ≤ 63) : ∃ S, m_law [.ref 0] [.rdl (ns.map D.int)] = .ok (.bl true) S := by
  have h0 : [Ob.rdl (ns.map D.int)][0]? = some (.rdl (ns.map D.int)) := rfl
  generalize [Ob.rdl (ns.map D.int)] = T0 at *
  obtain ⟨c0, G0, k0⟩ := r_at ns h0 0 (by decide)
  obtain ⟨b, G1, hb1, hb, k1⟩ := r_bits c0 (T0 ++ G0)
  have h1 : (T0 ++ G0 ++ G1)[0]? = some (.rdl (ns.map D.int)) := at_more (at_more h0)
  have s1 : (mCall m__law_bits (mCons (mCall m__law_at (mCons (mVar 0) (mCons (mC (.int 0)) (mNil)))) (mNil))) [some (.ref 0), none, none, none, none, none, none] T0 = .ok (.int (b : Int)) (T0 ++ G0 ++ G1) := by simp [-List.append_assoc, k0, k1]
  generalize T0 ++ G0 ++ G1 = T1 at *
  obtain ⟨c1, G2, k2⟩ := r_at ns h1 1 (by decide)
  obtain ⟨key, G3, hkey, k3⟩ := r_key c1 hb1 hb (T := T1 ++ G2 ++ [.lst []]) (o := (T1 ++ G2).length) (xs := []) (by simp) (by simp) (by simp)
  have h2 : (T1 ++ G2 ++ [Ob.lst []] ++ G3)[0]? = some (.rdl (ns.map D.int)) := at_more (at_more (at_more h1))
  have s2 : (mCall m__law_key (mCons (mVar 1) (mCons (mCall m__law_at (mCons (mVar 0) (mCons (mC (.int 1)) (mNil)))) (mCons (mLst (mNil)) (mNil))))) [some (.ref 0), some (.int (b : Int)), none, none, none, none, none] T1 = .ok (.int (key : Int)) (T1 ++ G2 ++ [Ob.lst []] ++ G3) := by
    generalize T1 ++ G2 = U at *
    simp [-List.append_assoc, k2, k3]
  generalize T1 ++ G2 ++ [Ob.lst []] ++ G3 = T2 at *
  obtain ⟨c2, G4, k4⟩ := r_at ns h2 2 (by decide)
  obtain ⟨ss, G5, k5, hss⟩ := r_steps c2 (Nat.zero_le b) hb (T2 ++ G4)
  have h3 : (T2 ++ G4 ++ G5)[0]? = some (.rdl (ns.map D.int)) := at_more (at_more h2)
  have k5' : m__law_steps [.int c2, .int 0, .int (b : Int)] (T2 ++ G4) = .ok (.tup (stD ss)) (T2 ++ G4 ++ G5) := k5
  have k6 : m__law_place [.tup (stD ss), .int 0] (T2 ++ G4 ++ G5) = .ok (.int (plc 0 ss : Int)) (T2 ++ G4 ++ G5) := r_place hss _
  have pl := (plc_le hss (Nat.zero_le b)).1
  have s3 : (mCall m__law_steps (mCons (mCall m__law_at (mCons (mVar 0) (mCons (mC (.int 2)) (mNil)))) (mCons (mC (.int 0)) (mCons (mVar 1) (mNil))))) [some (.ref 0), some (.int (b : Int)), some (.int (key : Int)), none, none, none, none] T2 = .ok (.tup (stD ss)) (T2 ++ G4 ++ G5) := by
    generalize stD ss = L at *
    simp [-List.append_assoc, k4, k5']
  generalize T2 ++ G4 ++ G5 = T3 at *
  obtain ⟨c3, G6, k7⟩ := r_at ns h3 3 (by decide)
  obtain ⟨e, k8, he⟩ := r_end c3 pl hb hkey (T3 ++ G6)
  have h4 : (T3 ++ G6)[0]? = some (.rdl (ns.map D.int)) := at_more h3
  have s5 : (mCall m__law_end (mCons (mCall m__law_at (mCons (mVar 0) (mCons (mC (.int 3)) (mNil)))) (mCons (mVar 1) (mCons (mVar 2) (mCons (mVar 4) (mNil)))))) [some (.ref 0), some (.int (b : Int)), some (.int (key : Int)), some (.tup (stD ss)), some (.int (plc 0 ss : Int)), none, none] T3 = .ok (.tup e) (T3 ++ G6) := by
    generalize stD ss = L at *
    simp [k7, k8]
  generalize T3 ++ G6 = T4 at *
  have gd := ed_good hb hss he
  have key' : We (m_law [.ref 0] T0) (fun d _ => d = .bl true) fun _ _ => False := by
    refine we_def ?_
    unfold b_law
    change Wp (sSeq _ _ [some (.ref 0), none, none, none, none, none, none] T0) _ _ _
    rw [wp_seq, wp_asg]
    refine We.of s1 ?_
    dsimp only [List.set]
    rw [wp_seq, wp_asg]
    refine We.of s2 ?_
    dsimp only [List.set]
    rw [wp_seq, wp_asg]
    refine We.of s3 ?_
    dsimp only [List.set]
    rw [wp_seq, wp_asg]
    refine We.of (d := .int (plc 0 ss : Int)) (S := T3) (by generalize stD ss = L at *; simp [k6]) ?_
    dsimp only [List.set]
    rw [wp_seq, wp_asg]
    refine We.of s5 ?_
    dsimp only [List.set]
    rw [wp_seq, wp_sif]
    have gU := gd
    refine We.of (d := false) (S := T4) (by have g4 := gU T4; generalize stD ss = L at *; simp [g4]) ?_
    rw [if_neg (by decide), ev_skip, wp_nx]
    obtain ⟨c5, G7, k9⟩ := r_at (T := T4 ++ [Ob.lst ((Eng.cutD ns (some 4) (some 44)).map D.int)]) ns (at_more h4) 81 (by decide)
    obtain ⟨c6, G8, k10⟩ := r_at (T := T4 ++ [Ob.lst ((Eng.cutD ns (some 4) (some 44)).map D.int)] ++ G7) ns (at_more (at_more h4)) 82 (by decide)
    have l9 := rdl_of h4
    have cut := cut_ints ns (some 4) (some 44)
    have cl : (Eng.cutD ns (some 4) (some 44)).length ≤ 40 := by
      have := cut_len ns 4 44
      exact this
    generalize hA : Eng.cutD ns (some 4) (some 44) = A at *
    have hC : (T4 ++ [Ob.lst (A.map D.int)])[T4.length]? = some (.lst (A.map D.int)) := List.getElem?_concat_length ..
    have sl1 : (mSl (mVar 0) (mO1 (mC (.int 4))) (mO1 (mC (.int 44)))) [some (.ref 0), some (.int (b : Int)), some (.int (key : Int)), some (.tup (stD ss)), some (.int (plc 0 ss : Int)), some (.tup e), none] T4 = .ok (.ref T4.length) (T4 ++ [Ob.lst (A.map D.int)]) := by
      generalize stD ss = L at *
      simp [l9, cut]
    generalize T4 ++ [Ob.lst (A.map D.int)] = T5 at *
    have k20 : mLst (mCons (mCall m__law_at (mCons (mVar 0) (mCons (mC (.int 81)) (mNil)))) (mCons (mCall m__law_at (mCons (mVar 0) (mCons (mC (.int 82)) (mNil)))) (mNil))) [some (.ref 0), some (.int (b : Int)), some (.int (key : Int)), some (.tup (stD ss)), some (.int (plc 0 ss : Int)), some (.tup e), none] T5 = .ok (.ref (T5 ++ G7 ++ G8).length) (T5 ++ G7 ++ G8 ++ [.lst [.int c5, .int c6]]) := by
      simp [-List.append_assoc, -List.length_append, k9, k10]
    have hC2 : (T5 ++ G7 ++ G8 ++ [Ob.lst [.int c5, .int c6]])[T4.length]? = some (.lst (A.map D.int)) := at_more (at_more (at_more hC))
    have hD : (T5 ++ G7 ++ G8 ++ [Ob.lst [.int c5, .int c6]])[(T5 ++ G7 ++ G8).length]? = some (.lst [.int c5, .int c6]) := List.getElem?_concat_length ..
    generalize T5 ++ G7 ++ G8 = T6 at *
    generalize hT7 : T6 ++ [Ob.lst [.int c5, .int c6]] = T7 at *
    have hm : (A.map D.int).length = A.length := List.length_map ..
    have hAe : A.map D.int ++ [.int c5, .int c6] = (A ++ [c5, c6]).map D.int := by simp
    have hal : (A ++ [c5, c6]).length = A.length + 2 := by simp
    have s10 : mIt (mBin fAdd (mSl (mVar 0) (mO1 (mC (.int 4))) (mO1 (mC (.int 44)))) (mLst (mCons (mCall m__law_at (mCons (mVar 0) (mCons (mC (.int 81)) (mNil)))) (mCons (mCall m__law_at (mCons (mVar 0) (mCons (mC (.int 82)) (mNil)))) (mNil))))) [some (.ref 0), some (.int (b : Int)), some (.int (key : Int)), some (.tup (stD ss)), some (.int (plc 0 ss : Int)), some (.tup e), none] T4 = .ok (itL T7.length (A ++ [c5, c6]).length) (T7 ++ [.lst ((A ++ [c5, c6]).map D.int)]) := by
      rw [hal, ← hAe]
      generalize A.map D.int = X at *
      have hml2 : A.length ≤ 16777214 := by omega
      simp [-ev_lst, -ev_sl, sl1, k20, hC2, hD, hml2, hm]
    have hL : (T7 ++ [Ob.lst ((A ++ [c5, c6]).map D.int)])[T7.length]? = some (.lst ((A ++ [c5, c6]).map D.int)) := List.getElem?_concat_length ..
    generalize A ++ [c5, c6] = B at *
    generalize hT8 : T7 ++ [Ob.lst (B.map D.int)] = T8 at *
    rw [wp_seq, wp_for_ev]
    refine We.of s10 ?_
    refine wp_for (it := itL T7.length B.length) (fun i ρ U => (∃ G, U = T8 ++ G) ∧ ∃ o, ρ = [some (.ref 0), some (.int (b : Int)), some (.int (key : Int)), some (.tup (stD ss)), some (.int (plc 0 ss : Int)), some (.tup e), o]) ⟨⟨[], by simp⟩, none, rfl⟩ ?_ (fun ρ U ⟨⟨G, hU⟩, _⟩ => by subst hU; exact itL_fin (lst_of (at_more hL)) (by simp)) ?_
    · rintro i ρ U hi ⟨⟨G, rfl⟩, o, rfl⟩
      have hi' : i < B.length := hi
      refine ⟨.int B[i], itL_nx (lst_of (at_more hL)) (by rw [List.getElem?_map, List.getElem?_eq_getElem hi']; rfl), _, rfl, ?_⟩
      generalize B[i] = c at *
      obtain ⟨x, G9, e1, bt⟩ := r_bad (S := T8 ++ G) c hb hkey hss he
      have bt' := bt.no []
      rw [List.append_nil] at bt'
      obtain ⟨y, Ga, e2, gt⟩ := r_good (S := T8 ++ G ++ G9) (c % 1000000000000000000000000000000) hb hkey hss
      unfold l1_law
      rw [wp_seq, wp_sif]
      refine We.of (d := false) (S := T8 ++ G ++ G9) (by generalize stD ss = L at *; simp [-List.append_assoc, e1, bt']) ?_
      rw [if_neg (by decide), ev_skip, wp_nx, wp_sif]
      have gt' := gt (T8 ++ G ++ G9 ++ Ga)
      refine We.of (d := false) (S := T8 ++ G ++ G9 ++ Ga) (by generalize stD ss = L at *; simp [-List.append_assoc, e2, gt']) ?_
      rw [if_neg (by decide), ev_skip, wp_nx]
      exact ⟨⟨G ++ G9 ++ Ga, by simp⟩, _, rfl⟩
    · rintro ρ U ⟨⟨G, rfl⟩, o, rfl⟩
      rw [wp_ret]
      have gf := gU (T8 ++ G)
      refine We.of (d := .bl true) (S := T8 ++ G) (by generalize stD ss = L at *; simp [gf]) rfl
  obtain ⟨d, S, e1, rfl⟩ := key'.ok
  exact ⟨S, e1⟩


theorem sc__law_bits : FnScope ["_law_cell"] ["_law_cell"] (defScope s__law_bits) := ⟨rfl, rfl, rfl, by decide +kernel, rfl, by decide +kernel, by decide +kernel⟩
theorem sc__law_key : FnScope ["_law_bits_here", "_law_cell", "_law_others", "_law_many", "_law_number", "_law_flip"] ["_law_bits_here", "_law_cell", "_law_others"] (defScope s__law_key) := ⟨rfl, rfl, rfl, by decide +kernel, rfl, by decide +kernel, by decide +kernel⟩
theorem sc__law_mark : FnScope ["_law_number"] ["_law_number"] (defScope s__law_mark) := ⟨rfl, rfl, rfl, by decide +kernel, rfl, by decide +kernel, by decide +kernel⟩
theorem sc__law_steps : FnScope ["_law_cell", "_law_low", "_law_bits_here", "_law_number", "_law_found", "_law_depth"] ["_law_cell", "_law_low", "_law_bits_here"] (defScope s__law_steps) := ⟨rfl, rfl, rfl, by decide +kernel, rfl, by decide +kernel, by decide +kernel⟩
theorem sc__law_place : FnScope ["_law_steps_here", "_law_low"] ["_law_steps_here", "_law_low"] (defScope s__law_place) := ⟨rfl, rfl, rfl, by decide +kernel, rfl, by decide +kernel, by decide +kernel⟩
theorem sc__law_text : FnScope ["_law_cell", "_law_signs", "_law_size", "_law_made", "_law_k"] ["_law_cell"] (defScope s__law_text) := ⟨rfl, rfl, rfl, by decide +kernel, rfl, by decide +kernel, by decide +kernel⟩
theorem sc__law_end : FnScope ["_law_cell", "_law_bits_here", "_law_key_here", "_law_low", "_law_number", "_law_free", "_law_depth", "_law_own", "_law_wide", "_law_rest"] ["_law_cell", "_law_bits_here", "_law_key_here", "_law_low"] (defScope s__law_end) := ⟨rfl, rfl, rfl, by decide +kernel, rfl, by decide +kernel, by decide +kernel⟩
theorem sc__law_at : FnScope ["_law_script", "_law_k", "_law_number", "_law_cell"] ["_law_script", "_law_k"] (defScope s__law_at) := ⟨rfl, rfl, rfl, by decide +kernel, rfl, by decide +kernel, by decide +kernel⟩
theorem sc_start : FnScope ["bits", "key", "depth"] ["bits", "key", "depth"] (defScope s_start) := ⟨rfl, rfl, rfl, by decide +kernel, rfl, by decide +kernel, by decide +kernel⟩
theorem sc_is_whole : FnScope ["thing"] ["thing"] (defScope s_is_whole) := ⟨rfl, rfl, rfl, by decide +kernel, rfl, by decide +kernel, by decide +kernel⟩
theorem sc_is_key : FnScope ["bits", "thing"] ["bits", "thing"] (defScope s_is_key) := ⟨rfl, rfl, rfl, by decide +kernel, rfl, by decide +kernel, by decide +kernel⟩
theorem sc_is_value : FnScope ["thing"] ["thing"] (defScope s_is_value) := ⟨rfl, rfl, rfl, by decide +kernel, rfl, by decide +kernel, by decide +kernel⟩
theorem sc_is_leaf_end : FnScope ["bits", "key", "depth", "thing"] ["bits", "key", "depth", "thing"] (defScope s_is_leaf_end) := ⟨rfl, rfl, rfl, by decide +kernel, rfl, by decide +kernel, by decide +kernel⟩
theorem sc_is_stamp : FnScope ["thing"] ["thing"] (defScope s_is_stamp) := ⟨rfl, rfl, rfl, by decide +kernel, rfl, by decide +kernel, by decide +kernel⟩
theorem sc_is_fork_end : FnScope ["bits", "key", "depth", "thing", "further", "begin"] ["bits", "key", "depth", "thing"] (defScope s_is_fork_end) := ⟨rfl, rfl, rfl, by decide +kernel, rfl, by decide +kernel, by decide +kernel⟩
theorem sc_are_steps : FnScope ["bits", "thing", "last", "step", "depth", "mark"] ["bits", "thing"] (defScope s_are_steps) := ⟨rfl, rfl, rfl, by decide +kernel, rfl, by decide +kernel, by decide +kernel⟩
theorem sc_end_depth : FnScope ["steps"] ["steps"] (defScope s_end_depth) := ⟨rfl, rfl, rfl, by decide +kernel, rfl, by decide +kernel, by decide +kernel⟩
theorem sc_is_slip : FnScope ["bits", "key", "thing", "steps", "end"] ["bits", "key", "thing"] (defScope s_is_slip) := ⟨rfl, rfl, rfl, by decide +kernel, rfl, by decide +kernel, by decide +kernel⟩
theorem sc__law_deep : FnScope ["_law_thing", "_law_k"] ["_law_thing"] (defScope s__law_deep) := ⟨rfl, rfl, rfl, by decide +kernel, rfl, by decide +kernel, by decide +kernel⟩
theorem sc__law_bad_leaves : FnScope ["_law_bits_here", "_law_key_here", "_law_low", "_law_number", "_law_some", "_law_flip"] ["_law_bits_here", "_law_key_here", "_law_low", "_law_number"] (defScope s__law_bad_leaves) := ⟨rfl, rfl, rfl, by decide +kernel, rfl, by decide +kernel, by decide +kernel⟩
theorem sc__law_bad_forks : FnScope ["_law_bits_here", "_law_key_here", "_law_low", "_law_number", "_law_top", "_law_some", "_law_far", "_law_deep_here", "_law_depth", "_law_own", "_law_good_here", "_law_flip"] ["_law_bits_here", "_law_key_here", "_law_low", "_law_number"] (defScope s__law_bad_forks) := ⟨rfl, rfl, rfl, by decide +kernel, rfl, by decide +kernel, by decide +kernel⟩
theorem sc__law_bad_steps : FnScope ["_law_cell", "_law_steps_here", "_law_bits_here", "_law_at_here", "_law_some", "_law_far", "_law_changed", "_law_depth", "_law_mark_here"] ["_law_cell", "_law_steps_here", "_law_bits_here"] (defScope s__law_bad_steps) := ⟨rfl, rfl, rfl, by decide +kernel, rfl, by decide +kernel, by decide +kernel⟩
theorem sc__law_bad : FnScope ["_law_cell", "_law_bits_here", "_law_key_here", "_law_steps_here", "_law_end_here", "_law_low", "_law_number", "_law_some"] ["_law_cell", "_law_bits_here", "_law_key_here", "_law_steps_here", "_law_end_here", "_law_low"] (defScope s__law_bad) := ⟨rfl, rfl, rfl, by decide +kernel, rfl, by decide +kernel, by decide +kernel⟩
theorem sc__law_good : FnScope ["_law_bits_here", "_law_key_here", "_law_steps_here", "_law_low", "_law_number", "_law_some", "_law_depth"] ["_law_bits_here", "_law_key_here", "_law_steps_here", "_law_low", "_law_number"] (defScope s__law_good) := ⟨rfl, rfl, rfl, by decide +kernel, rfl, by decide +kernel, by decide +kernel⟩
theorem sc_law : FnScope ["_law_script", "_law_bits_here", "_law_key_here", "_law_steps_here", "_law_low", "_law_end_here", "_law_cell"] ["_law_script"] (defScope s_law) := ⟨rfl, rfl, rfl, by decide +kernel, rfl, by decide +kernel, by decide +kernel⟩
structure Ad where
  f__law_bits : Addr
  d__law_bits : FuncData
  f__law_key : Addr
  d__law_key : FuncData
  f__law_mark : Addr
  d__law_mark : FuncData
  f__law_steps : Addr
  d__law_steps : FuncData
  f__law_place : Addr
  d__law_place : FuncData
  f__law_text : Addr
  d__law_text : FuncData
  f__law_end : Addr
  d__law_end : FuncData
  f__law_at : Addr
  d__law_at : FuncData
  f_start : Addr
  d_start : FuncData
  f_is_whole : Addr
  d_is_whole : FuncData
  f_is_key : Addr
  d_is_key : FuncData
  f_is_value : Addr
  d_is_value : FuncData
  f_is_leaf_end : Addr
  d_is_leaf_end : FuncData
  f_is_stamp : Addr
  d_is_stamp : FuncData
  f_is_fork_end : Addr
  d_is_fork_end : FuncData
  f_are_steps : Addr
  d_are_steps : FuncData
  f_end_depth : Addr
  d_end_depth : FuncData
  f_is_slip : Addr
  d_is_slip : FuncData
  f__law_deep : Addr
  d__law_deep : FuncData
  f__law_bad_leaves : Addr
  d__law_bad_leaves : FuncData
  f__law_bad_forks : Addr
  d__law_bad_forks : FuncData
  f__law_bad_steps : Addr
  d__law_bad_steps : FuncData
  f__law_bad : Addr
  d__law_bad : FuncData
  f__law_good : Addr
  d__law_good : FuncData
  f_law : Addr
  d_law : FuncData
structure Txt (K : PySem.W.Frag) (mg : Str → Option Value) (a : Ad) : Prop where
  F__law_bits : Fun K "_law_bits" "_law_bits" s__law_bits a.f__law_bits a.d__law_bits
  b__law_bits : Binds K a.d__law_bits ["_law_cell"] []
  g__law_bits : mg "_law_bits" = some (.ref a.f__law_bits)
  F__law_key : Fun K "_law_key" "_law_key" s__law_key a.f__law_key a.d__law_key
  b__law_key : Binds K a.d__law_key ["_law_bits_here", "_law_cell", "_law_others"] []
  g__law_key : mg "_law_key" = some (.ref a.f__law_key)
  F__law_mark : Fun K "_law_mark" "_law_mark" s__law_mark a.f__law_mark a.d__law_mark
  b__law_mark : Binds K a.d__law_mark ["_law_number"] []
  g__law_mark : mg "_law_mark" = some (.ref a.f__law_mark)
  F__law_steps : Fun K "_law_steps" "_law_steps" s__law_steps a.f__law_steps a.d__law_steps
  b__law_steps : Binds K a.d__law_steps ["_law_cell", "_law_low", "_law_bits_here"] []
  g__law_steps : mg "_law_steps" = some (.ref a.f__law_steps)
  F__law_place : Fun K "_law_place" "_law_place" s__law_place a.f__law_place a.d__law_place
  b__law_place : Binds K a.d__law_place ["_law_steps_here", "_law_low"] []
  g__law_place : mg "_law_place" = some (.ref a.f__law_place)
  F__law_text : Fun K "_law_text" "_law_text" s__law_text a.f__law_text a.d__law_text
  b__law_text : Binds K a.d__law_text ["_law_cell"] []
  g__law_text : mg "_law_text" = some (.ref a.f__law_text)
  F__law_end : Fun K "_law_end" "_law_end" s__law_end a.f__law_end a.d__law_end
  b__law_end : Binds K a.d__law_end ["_law_cell", "_law_bits_here", "_law_key_here", "_law_low"] []
  g__law_end : mg "_law_end" = some (.ref a.f__law_end)
  F__law_at : Fun K "_law_at" "_law_at" s__law_at a.f__law_at a.d__law_at
  b__law_at : Binds K a.d__law_at ["_law_script", "_law_k"] []
  g__law_at : mg "_law_at" = some (.ref a.f__law_at)
  F_start : Fun K "start" "start" s_start a.f_start a.d_start
  b_start : Binds K a.d_start ["bits", "key", "depth"] []
  g_start : mg "start" = some (.ref a.f_start)
  F_is_whole : Fun K "is_whole" "is_whole" s_is_whole a.f_is_whole a.d_is_whole
  b_is_whole : Binds K a.d_is_whole ["thing"] []
  g_is_whole : mg "is_whole" = some (.ref a.f_is_whole)
  F_is_key : Fun K "is_key" "is_key" s_is_key a.f_is_key a.d_is_key
  b_is_key : Binds K a.d_is_key ["bits", "thing"] []
  g_is_key : mg "is_key" = some (.ref a.f_is_key)
  F_is_value : Fun K "is_value" "is_value" s_is_value a.f_is_value a.d_is_value
  b_is_value : Binds K a.d_is_value ["thing"] []
  g_is_value : mg "is_value" = some (.ref a.f_is_value)
  F_is_leaf_end : Fun K "is_leaf_end" "is_leaf_end" s_is_leaf_end a.f_is_leaf_end a.d_is_leaf_end
  b_is_leaf_end : Binds K a.d_is_leaf_end ["bits", "key", "depth", "thing"] []
  g_is_leaf_end : mg "is_leaf_end" = some (.ref a.f_is_leaf_end)
  F_is_stamp : Fun K "is_stamp" "is_stamp" s_is_stamp a.f_is_stamp a.d_is_stamp
  b_is_stamp : Binds K a.d_is_stamp ["thing"] []
  g_is_stamp : mg "is_stamp" = some (.ref a.f_is_stamp)
  F_is_fork_end : Fun K "is_fork_end" "is_fork_end" s_is_fork_end a.f_is_fork_end a.d_is_fork_end
  b_is_fork_end : Binds K a.d_is_fork_end ["bits", "key", "depth", "thing"] []
  g_is_fork_end : mg "is_fork_end" = some (.ref a.f_is_fork_end)
  F_are_steps : Fun K "are_steps" "are_steps" s_are_steps a.f_are_steps a.d_are_steps
  b_are_steps : Binds K a.d_are_steps ["bits", "thing"] []
  g_are_steps : mg "are_steps" = some (.ref a.f_are_steps)
  F_end_depth : Fun K "end_depth" "end_depth" s_end_depth a.f_end_depth a.d_end_depth
  b_end_depth : Binds K a.d_end_depth ["steps"] []
  g_end_depth : mg "end_depth" = some (.ref a.f_end_depth)
  F_is_slip : Fun K "is_slip" "is_slip" s_is_slip a.f_is_slip a.d_is_slip
  b_is_slip : Binds K a.d_is_slip ["bits", "key", "thing"] []
  g_is_slip : mg "is_slip" = some (.ref a.f_is_slip)
  F__law_deep : Fun K "_law_deep" "_law_deep" s__law_deep a.f__law_deep a.d__law_deep
  b__law_deep : Binds K a.d__law_deep ["_law_thing"] []
  g__law_deep : mg "_law_deep" = some (.ref a.f__law_deep)
  F__law_bad_leaves : Fun K "_law_bad_leaves" "_law_bad_leaves" s__law_bad_leaves a.f__law_bad_leaves a.d__law_bad_leaves
  b__law_bad_leaves : Binds K a.d__law_bad_leaves ["_law_bits_here", "_law_key_here", "_law_low", "_law_number"] []
  g__law_bad_leaves : mg "_law_bad_leaves" = some (.ref a.f__law_bad_leaves)
  F__law_bad_forks : Fun K "_law_bad_forks" "_law_bad_forks" s__law_bad_forks a.f__law_bad_forks a.d__law_bad_forks
  b__law_bad_forks : Binds K a.d__law_bad_forks ["_law_bits_here", "_law_key_here", "_law_low", "_law_number"] []
  g__law_bad_forks : mg "_law_bad_forks" = some (.ref a.f__law_bad_forks)
  F__law_bad_steps : Fun K "_law_bad_steps" "_law_bad_steps" s__law_bad_steps a.f__law_bad_steps a.d__law_bad_steps
  b__law_bad_steps : Binds K a.d__law_bad_steps ["_law_cell", "_law_steps_here", "_law_bits_here"] []
  g__law_bad_steps : mg "_law_bad_steps" = some (.ref a.f__law_bad_steps)
  F__law_bad : Fun K "_law_bad" "_law_bad" s__law_bad a.f__law_bad a.d__law_bad
  b__law_bad : Binds K a.d__law_bad ["_law_cell", "_law_bits_here", "_law_key_here", "_law_steps_here", "_law_end_here", "_law_low"] []
  g__law_bad : mg "_law_bad" = some (.ref a.f__law_bad)
  F__law_good : Fun K "_law_good" "_law_good" s__law_good a.f__law_good a.d__law_good
  b__law_good : Binds K a.d__law_good ["_law_bits_here", "_law_key_here", "_law_steps_here", "_law_low", "_law_number"] []
  g__law_good : mg "_law_good" = some (.ref a.f__law_good)
  F_law : Fun K "law" "law" s_law a.f_law a.d_law
  b_law : Binds K a.d_law ["_law_script"] []
  g_law : mg "law" = some (.ref a.f_law)
  z_bool : mg "bool" = none
  z_int : mg "int" = none
  z_isinstance : mg "isinstance" = none
  z_len : mg "len" = none
  z_list : mg "list" = none
  z_range : mg "range" = none
  z_str : mg "str" = none
  z_tuple : mg "tuple" = none
  c_MOST_SIGNS : ∃ t, mg "MOST_SIGNS" = some (.int 60 t)
section
variable {P : Program} {w : World} {K : PySem.W.Frag} {mg : Str → Option Value} {base : Heap} {a : Ad}
theorem ok__law_bits (T : Txt K mg a) : FnOk P w K mg base (L2.CX P w) 1 a.f__law_bits a.d__law_bits ["_law_cell"] (spM K mg 1 m__law_bits) :=
  fn_ok (k := 0) T.F__law_bits sc__law_bits fun cdv A outer s H E hr =>
    (ms_one (ms_ret (me_add me_int (me_mod (me_div (me_var 0) me_int) (me_item hr (me_lst (ma_cons me_int (ma_cons me_int (ma_cons me_int ma_nil)))) (me_mod (me_var 0) me_int))))))
theorem ok__law_key (T : Txt K mg a) : FnOk P w K mg base (L2.CX P w) 1 a.f__law_key a.d__law_key ["_law_bits_here", "_law_cell", "_law_others"] (spM K mg 3 m__law_key) :=
  fn_ok (k := 0) T.F__law_key sc__law_key fun cdv A outer s H E hr =>
    (ms_cons (ms_asg (i := 3) sc__law_key.nd (me_shl me_int (me_var 0)))
      (ms_cons (ms_asg (i := 4) sc__law_key.nd (me_div (me_var 1) me_int))
      (ms_cons (ms_if (mt_cmp (op_eqA hr) o_eq (me_mod (me_var 1) me_int) me_int (nomark _)) (ms_one (ms_ret (me_mod (me_var 4) (me_var 3)))) ms_nil)
      (ms_cons (ms_if (mt_cmp (op_eqA hr) o_eq (me_mod (me_var 1) me_int) me_int (nomark _)) (ms_one (ms_ret (me_sub (me_sub (me_var 3) me_int) (me_mod (me_var 4) (me_var 3))))) ms_nil)
      (ms_cons (ms_if (mw_pt (mw_and (mt_cmp (op_eqA hr) o_eq (me_mod (me_var 1) me_int) me_int (nomark _)) (mw_and1 (mt_cmp (op_neA hr) o_ne (me_var 2) (me_lst ma_nil) (nomark _))))) (ms_cons (ms_asg (i := 5) sc__law_key.nd (me_mod (me_mod (me_mulA (me_var 4) me_int) me_int) (me_var 0)))
      (ms_one (ms_ret (me_xor (me_item hr (me_var 2) (me_mod (me_var 4) (me_len T.z_len (me_var 2)))) (me_shl me_int (me_var 5)))))) ms_nil)
      (ms_one (ms_ret (me_mod (me_mulA (me_var 4) me_int) (me_var 3)))))))))
theorem ok__law_mark (T : Txt K mg a) : FnOk P w K mg base (L2.CX P w) 1 a.f__law_mark a.d__law_mark ["_law_number"] (spM K mg 1 m__law_mark) :=
  fn_ok (k := 0) T.F__law_mark sc__law_mark fun cdv A outer s H E hr =>
    (ms_cons (ms_asg (i := 0) sc__law_mark.nd (me_mod (me_mulA (me_var 0) me_int) me_int))
      (ms_cons (ms_if (mt_cmp (op_eqA hr) o_eq (me_mod (me_var 0) me_int) me_int (nomark _)) (ms_one (ms_ret (me_add me_str (me_str1 T.z_str (me_mod (me_var 0) me_int))))) ms_nil)
      (ms_cons (ms_if (mt_cmp (op_eqA hr) o_eq (me_mod (me_var 0) me_int) me_int (nomark _)) (ms_one (ms_ret (me_mod (me_div (me_var 0) me_int) me_int))) ms_nil)
      (ms_cons (ms_if (mt_cmp (op_eqA hr) o_eq (me_mod (me_var 0) me_int) me_int (nomark _)) (ms_one (ms_ret (me_mulA (me_var 0) (me_pow me_int me_int)))) ms_nil)
      (ms_one (ms_ret (me_sub (me_sub (me_pow me_int me_int) me_int) (me_var 0))))))))
theorem ok__law_steps (T : Txt K mg a) : FnOk P w K mg base (L2.CX P w) 2 a.f__law_steps a.d__law_steps ["_law_cell", "_law_low", "_law_bits_here"] (spM K mg 3 m__law_steps) :=
  fn_ok (k := 1) T.F__law_steps sc__law_steps fun cdv A outer s H E hr =>
    (ms_cons (ms_asg (i := 3) sc__law_steps.nd (me_mod (me_div (me_var 0) me_int) me_int))
      (ms_cons (ms_asg (i := 4) sc__law_steps.nd (me_lst ma_nil))
      (ms_cons (ms_for (passes_of rfl) (mi_range2 T.z_range (me_var 1) (me_var 2)) (mg_name (i := 5) sc__law_steps.nd) (ms_one (ms_if (mt_cmp op_lt o_lt (me_mod (me_mod (me_mulA (me_mulA (me_var 3) (me_add (me_var 5) me_int)) me_int) me_int) me_int) (me_mod (me_var 0) me_int) (nomark _)) (ms_one (ms_expr (me_append (me_var 4) (me_tup (ma_cons (me_var 5) (ma_cons (me_call (ok__law_mark T) hr T.F__law_mark.kp T.g__law_mark T.b__law_mark (takes_of rfl rfl rfl rfl) (ma_cons (me_add (me_var 3) (me_mulA me_int (me_var 5))) ma_nil) (len_cons len_nil)) ma_nil)))))) ms_nil)))
      (ms_one (ms_ret (me_tuple1 T.z_tuple (me_var 4)))))))
theorem ok__law_place (T : Txt K mg a) : FnOk P w K mg base (L2.CX P w) 1 a.f__law_place a.d__law_place ["_law_steps_here", "_law_low"] (spM K mg 2 m__law_place) :=
  fn_ok (k := 0) T.F__law_place sc__law_place fun cdv A outer s H E hr =>
    (ms_cons (ms_if (mt_cmp (op_eqA hr) o_eq (me_var 0) (me_tup ma_nil) (nomark _)) (ms_one (ms_ret (me_var 1))) ms_nil)
      (ms_one (ms_ret (me_add (me_item hr (me_item hr (me_var 0) (me_neg me_int)) me_int) me_int))))
theorem ok__law_text (T : Txt K mg a) : FnOk P w K mg base (L2.CX P w) 1 a.f__law_text a.d__law_text ["_law_cell"] (spM K mg 1 m__law_text) :=
  fn_ok (k := 0) T.F__law_text sc__law_text fun cdv A outer s H E hr =>
    (ms_cons (ms_asg (i := 1) sc__law_text.nd me_str)
      (ms_cons (ms_asg (i := 1) sc__law_text.nd (me_add (me_var 1) me_str))
      (ms_cons (ms_asg (i := 2) sc__law_text.nd (me_mod (me_var 0) me_int))
      (ms_cons (ms_if (mt_cmp (op_eqA hr) o_eq (me_mod (me_div (me_var 0) me_int) me_int) me_int (nomark _)) (ms_one (ms_asg (i := 2) sc__law_text.nd me_int)) ms_nil)
      (ms_cons (ms_if (mt_cmp (op_eqA hr) o_eq (me_mod (me_div (me_var 0) me_int) me_int) me_int (nomark _)) (ms_one (ms_asg (i := 2) sc__law_text.nd (me_mod (me_div (me_var 0) me_int) me_int))) ms_nil)
      (ms_cons (ms_asg (i := 3) sc__law_text.nd me_str)
      (ms_cons (ms_for (passes_of rfl) (mi_range1 T.z_range (me_var 2)) (mg_name (i := 4) sc__law_text.nd) (ms_one (ms_asg (i := 3) sc__law_text.nd (me_add (me_var 3) (me_item hr (me_var 1) (me_mod (me_add (me_div (me_var 0) me_int) (me_mulA (me_var 4) (me_mod (me_div (me_var 0) me_int) me_int))) (me_len T.z_len (me_var 1))))))))
      (ms_one (ms_ret (me_var 3))))))))))
theorem ok__law_end (T : Txt K mg a) : FnOk P w K mg base (L2.CX P w) 2 a.f__law_end a.d__law_end ["_law_cell", "_law_bits_here", "_law_key_here", "_law_low"] (spM K mg 4 m__law_end) :=
  fn_ok (k := 1) T.F__law_end sc__law_end fun cdv A outer s H E hr =>
    (ms_cons (ms_asg (i := 4) sc__law_end.nd (me_div (me_var 0) me_int))
      (ms_cons (ms_if (mw_pt (mw_and (mt_cmp (op_eqA hr) o_eq (me_mod (me_var 0) me_int) me_int (nomark _)) (mw_and1 (mt_cmp (op_eqA hr) o_eq (me_var 3) me_int (nomark _))))) (ms_one (ms_ret (me_tup (ma_cons me_str ma_nil)))) ms_nil)
      (ms_cons (ms_if (mw_pt (mw_and (mt_cmp (op_eqA hr) o_eq (me_mod (me_var 0) me_int) me_int (nomark _)) (mw_and1 (mt_cmp op_lt o_lt (me_add (me_var 3) me_int) (me_var 1) (nomark _))))) (ms_cons (ms_asg (i := 6) sc__law_end.nd (me_add (me_add (me_var 3) me_int) (me_mod (me_var 4) (me_sub (me_sub (me_var 1) me_int) (me_var 3)))))
      (ms_cons (ms_asg (i := 7) sc__law_end.nd (me_shr (me_var 2) (me_sub (me_var 1) (me_var 6))))
      (ms_cons (ms_asg (i := 8) sc__law_end.nd (me_shl me_int (me_sub (me_var 6) (me_var 3))))
      (ms_cons (ms_asg (i := 9) sc__law_end.nd (me_mod (me_add (me_add (me_mod (me_var 7) (me_var 8)) me_int) (me_mod (me_mulA (me_var 4) me_int) (me_sub (me_var 8) me_int))) (me_var 8)))
      (ms_one (ms_ret (me_tup (ma_cons me_str (ma_cons (me_var 6) (ma_cons (me_add (me_sub (me_var 7) (me_mod (me_var 7) (me_var 8))) (me_var 9)) (ma_cons (me_call (ok__law_mark T) hr T.F__law_mark.kp T.g__law_mark T.b__law_mark (takes_of rfl rfl rfl rfl) (ma_cons (me_var 4) ma_nil) (len_cons len_nil)) (ma_cons (me_call (ok__law_mark T) hr T.F__law_mark.kp T.g__law_mark T.b__law_mark (takes_of rfl rfl rfl rfl) (ma_cons (me_add (me_div (me_var 4) me_int) me_int) ma_nil) (len_cons len_nil)) ma_nil)))))))))))) ms_nil)
      (ms_cons (ms_asg (i := 5) sc__law_end.nd (me_shl me_int (me_sub (me_var 1) (me_var 3))))
      (ms_cons (ms_if (mt_cmp (op_eqA hr) o_eq (me_mod (me_var 0) me_int) me_int (nomark _)) (ms_one (ms_ret (me_tup (ma_cons me_str (ma_cons (me_var 2) (ma_cons (me_call (ok__law_text T) hr T.F__law_text.kp T.g__law_text T.b__law_text (takes_of rfl rfl rfl rfl) (ma_cons (me_var 4) ma_nil) (len_cons len_nil)) ma_nil)))))) ms_nil)
      (ms_one (ms_ret (me_tup (ma_cons me_str (ma_cons (me_add (me_sub (me_var 2) (me_mod (me_var 2) (me_var 5))) (me_mod (me_mulA (me_var 4) me_int) (me_var 5))) (ma_cons (me_call (ok__law_text T) hr T.F__law_text.kp T.g__law_text T.b__law_text (takes_of rfl rfl rfl rfl) (ma_cons (me_div (me_var 4) me_int) ma_nil) (len_cons len_nil)) ma_nil)))))))))))
theorem ok__law_at (T : Txt K mg a) : FnOk P w K mg base (L2.CX P w) 1 a.f__law_at a.d__law_at ["_law_script", "_law_k"] (spM K mg 2 m__law_at) :=
  fn_ok (k := 0) T.F__law_at sc__law_at fun cdv A outer s H E hr =>
    (ms_cons (ms_if (mt_cmp op_lt o_lt (me_var 1) (me_len T.z_len (me_var 0)) (nomark _)) (ms_one (ms_ret (me_item hr (me_var 0) (me_var 1)))) ms_nil)
      (ms_cons (ms_asg (i := 2) sc__law_at.nd (me_add me_int (me_len T.z_len (me_var 0))))
      (ms_cons (ms_for (passes_of rfl) (mi_seq (me_slice (me_var 0) mo_none (mo_some me_int))) (mg_name (i := 3) sc__law_at.nd) (ms_one (ms_asg (i := 2) sc__law_at.nd (me_mod (me_add (me_mulA (me_var 2) me_int) (me_var 3)) me_int))))
      (ms_cons (ms_asg (i := 2) sc__law_at.nd (me_mod (me_add (me_var 2) (me_mulA me_int (me_var 1))) me_int))
      (ms_one (ms_ret (me_mod (me_mulA (me_var 2) (me_var 2)) me_int)))))))
theorem ok_start (T : Txt K mg a) : FnOk P w K mg base (L2.CX P w) 1 a.f_start a.d_start ["bits", "key", "depth"] (spM K mg 3 m_start) :=
  fn_ok (k := 0) T.F_start sc_start fun cdv A outer s H E hr =>
    (ms_one (ms_ret (me_shr (me_var 1) (me_sub (me_var 0) (me_var 2)))))
theorem ok_is_whole (T : Txt K mg a) : FnOk P w K mg base (L2.CX P w) 1 a.f_is_whole a.d_is_whole ["thing"] (spM K mg 1 m_is_whole) :=
  fn_ok (k := 0) T.F_is_whole sc_is_whole fun cdv A outer s H E hr =>
    (ms_one (ms_ret (me_and (me_isi T.z_isinstance (me_var 0) (me_ty (by rfl) T.z_int (by decide +kernel))) (me_one (me_not (me_isi T.z_isinstance (me_var 0) (me_ty (by rfl) T.z_bool (by decide +kernel))))))))
theorem ok_is_key (T : Txt K mg a) : FnOk P w K mg base (L2.CX P w) 2 a.f_is_key a.d_is_key ["bits", "thing"] (spM K mg 2 m_is_key) :=
  fn_ok (k := 1) T.F_is_key sc_is_key fun cdv A outer s H E hr =>
    (ms_one (ms_ret (me_and (me_call (ok_is_whole T) hr T.F_is_whole.kp T.g_is_whole T.b_is_whole (takes_of rfl rfl rfl rfl) (ma_cons (me_var 1) ma_nil) (len_cons len_nil)) (me_one (me_chain op_le o_le op_lt o_lt me_int (me_var 1) (me_shl me_int (me_var 0)))))))
theorem ok_is_value (T : Txt K mg a) : FnOk P w K mg base (L2.CX P w) 1 a.f_is_value a.d_is_value ["thing"] (spM K mg 1 m_is_value) :=
  fn_ok (k := 0) T.F_is_value sc_is_value fun cdv A outer s H E hr =>
    (ms_one (ms_ret (me_and (me_isi T.z_isinstance (me_var 0) (me_ty (by rfl) T.z_str (by decide +kernel))) (me_one (me_cmp op_le o_le (me_len T.z_len (me_var 0)) (me_glI' (by rfl) T.c_MOST_SIGNS) (nomark _))))))
theorem ok_is_leaf_end (T : Txt K mg a) : FnOk P w K mg base (L2.CX P w) 3 a.f_is_leaf_end a.d_is_leaf_end ["bits", "key", "depth", "thing"] (spM K mg 4 m_is_leaf_end) :=
  fn_ok (k := 2) T.F_is_leaf_end sc_is_leaf_end fun cdv A outer s H E hr =>
    (ms_cons (ms_if (mw_pt (mw_or (mt_cmp (op_neA hr) o_ne (me_len T.z_len (me_var 3)) me_int (nomark _)) (mw_or (mt_not (mt_tru (me_call (ok_is_key T) hr T.F_is_key.kp T.g_is_key T.b_is_key (takes_of rfl rfl rfl rfl) (ma_cons (me_var 0) (ma_cons (me_item hr (me_var 3) me_int) ma_nil)) (len_cons (len_cons len_nil))))) (mw_or1 (mt_not (mt_tru (me_call (ok_is_value T) hr T.F_is_value.kp T.g_is_value T.b_is_value (takes_of rfl rfl rfl rfl) (ma_cons (me_item hr (me_var 3) me_int) ma_nil) (len_cons len_nil)))))))) (ms_one (ms_ret me_bl)) ms_nil)
      (ms_one (ms_ret (me_cmp (op_eqA hr) o_eq (me_call (ok_start T) hr T.F_start.kp T.g_start T.b_start (takes_of rfl rfl rfl rfl) (ma_cons (me_var 0) (ma_cons (me_item hr (me_var 3) me_int) (ma_cons (me_var 2) ma_nil))) (len_cons (len_cons (len_cons len_nil)))) (me_call (ok_start T) hr T.F_start.kp T.g_start T.b_start (takes_of rfl rfl rfl rfl) (ma_cons (me_var 0) (ma_cons (me_var 1) (ma_cons (me_var 2) ma_nil))) (len_cons (len_cons (len_cons len_nil)))) (nomark _)))))
theorem ok_is_stamp (T : Txt K mg a) : FnOk P w K mg base (L2.CX P w) 2 a.f_is_stamp a.d_is_stamp ["thing"] (spM K mg 1 m_is_stamp) :=
  fn_ok (k := 1) T.F_is_stamp sc_is_stamp fun cdv A outer s H E hr =>
    (ms_cons (ms_if (mt_tru (me_isi T.z_isinstance (me_var 0) (me_ty (by rfl) T.z_str (by decide +kernel)))) (ms_one (ms_ret me_bl)) ms_nil)
      (ms_one (ms_ret (me_and (me_call (ok_is_whole T) hr T.F_is_whole.kp T.g_is_whole T.b_is_whole (takes_of rfl rfl rfl rfl) (ma_cons (me_var 0) ma_nil) (len_cons len_nil)) (me_one (me_chain op_le o_le op_lt o_lt me_int (me_var 0) (me_pow me_int me_int)))))))
theorem ok_is_fork_end (T : Txt K mg a) : FnOk P w K mg base (L2.CX P w) 3 a.f_is_fork_end a.d_is_fork_end ["bits", "key", "depth", "thing"] (spM K mg 4 m_is_fork_end) :=
  fn_ok (k := 2) T.F_is_fork_end sc_is_fork_end fun cdv A outer s H E hr =>
    (ms_cons (ms_if (mw_pt (mw_or (mt_cmp (op_neA hr) o_ne (me_len T.z_len (me_var 3)) me_int (nomark _)) (mw_or (mt_not (mt_tru (me_call (ok_is_whole T) hr T.F_is_whole.kp T.g_is_whole T.b_is_whole (takes_of rfl rfl rfl rfl) (ma_cons (me_item hr (me_var 3) me_int) ma_nil) (len_cons len_nil)))) (mw_or1 (mt_not (mt_tru (me_call (ok_is_whole T) hr T.F_is_whole.kp T.g_is_whole T.b_is_whole (takes_of rfl rfl rfl rfl) (ma_cons (me_item hr (me_var 3) me_int) ma_nil) (len_cons len_nil)))))))) (ms_one (ms_ret me_bl)) ms_nil)
      (ms_cons (ms_asg (i := 4) sc_is_fork_end.nd (me_item hr (me_var 3) me_int))
      (ms_cons (ms_asg (i := 5) sc_is_fork_end.nd (me_item hr (me_var 3) me_int))
      (ms_cons (ms_if (mw_pt (mw_or (mt_not (mt_chain op_lt o_lt op_lt o_lt (me_var 2) (me_var 4) (me_var 0))) (mw_or1 (mt_not (mt_chain op_le o_le op_lt o_lt me_int (me_var 5) (me_shl me_int (me_var 4))))))) (ms_one (ms_ret me_bl)) ms_nil)
      (ms_cons (ms_if (mw_pt (mw_or (mt_not (mt_tru (me_call (ok_is_stamp T) hr T.F_is_stamp.kp T.g_is_stamp T.b_is_stamp (takes_of rfl rfl rfl rfl) (ma_cons (me_item hr (me_var 3) me_int) ma_nil) (len_cons len_nil)))) (mw_or1 (mt_not (mt_tru (me_call (ok_is_stamp T) hr T.F_is_stamp.kp T.g_is_stamp T.b_is_stamp (takes_of rfl rfl rfl rfl) (ma_cons (me_item hr (me_var 3) me_int) ma_nil) (len_cons len_nil))))))) (ms_one (ms_ret me_bl)) ms_nil)
      (ms_cons (ms_if (mt_cmp (op_neA hr) o_ne (me_shr (me_var 5) (me_sub (me_var 4) (me_var 2))) (me_call (ok_start T) hr T.F_start.kp T.g_start T.b_start (takes_of rfl rfl rfl rfl) (ma_cons (me_var 0) (ma_cons (me_var 1) (ma_cons (me_var 2) ma_nil))) (len_cons (len_cons (len_cons len_nil)))) (nomark _)) (ms_one (ms_ret me_bl)) ms_nil)
      (ms_one (ms_ret (me_cmp (op_neA hr) o_ne (me_var 5) (me_call (ok_start T) hr T.F_start.kp T.g_start T.b_start (takes_of rfl rfl rfl rfl) (ma_cons (me_var 0) (ma_cons (me_var 1) (ma_cons (me_var 4) ma_nil))) (len_cons (len_cons (len_cons len_nil)))) (nomark _))))))))))
theorem ok_are_steps (T : Txt K mg a) : FnOk P w K mg base (L2.CX P w) 3 a.f_are_steps a.d_are_steps ["bits", "thing"] (spM K mg 2 m_are_steps) :=
  fn_ok (k := 2) T.F_are_steps sc_are_steps fun cdv A outer s H E hr =>
    (ms_cons (ms_if (mt_not (mt_tru (me_isi T.z_isinstance (me_var 1) (me_ty (by rfl) T.z_tuple (by decide +kernel))))) (ms_one (ms_ret me_bl)) ms_nil)
      (ms_cons (ms_asg (i := 2) sc_are_steps.nd (me_neg me_int))
      (ms_cons (ms_for (passes_of rfl) (mi_seq (me_var 1)) (mg_name (i := 3) sc_are_steps.nd) (ms_cons (ms_if (mw_pt (mw_or (mt_not (mt_tru (me_isi T.z_isinstance (me_var 3) (me_ty (by rfl) T.z_tuple (by decide +kernel))))) (mw_or1 (mt_cmp (op_neA hr) o_ne (me_len T.z_len (me_var 3)) me_int (nomark _))))) (ms_one (ms_ret me_bl)) ms_nil)
      (ms_cons (ms_asgT (me_var 3) (mg_tup (mgs_cons (i := 4) (mgs_cons (i := 5) mgs_nil sc_are_steps.nd) sc_are_steps.nd)))
      (ms_cons (ms_if (mw_pt (mw_or (mt_not (mt_tru (me_call (ok_is_whole T) hr T.F_is_whole.kp T.g_is_whole T.b_is_whole (takes_of rfl rfl rfl rfl) (ma_cons (me_var 4) ma_nil) (len_cons len_nil)))) (mw_or (mt_not (mt_chain op_lt o_lt op_lt o_lt (me_var 2) (me_var 4) (me_var 0))) (mw_or1 (mt_not (mt_tru (me_call (ok_is_stamp T) hr T.F_is_stamp.kp T.g_is_stamp T.b_is_stamp (takes_of rfl rfl rfl rfl) (ma_cons (me_var 5) ma_nil) (len_cons len_nil)))))))) (ms_one (ms_ret me_bl)) ms_nil)
      (ms_one (ms_asg (i := 2) sc_are_steps.nd (me_var 4)))))))
      (ms_one (ms_ret me_bl)))))
theorem ok_end_depth (T : Txt K mg a) : FnOk P w K mg base (L2.CX P w) 1 a.f_end_depth a.d_end_depth ["steps"] (spM K mg 1 m_end_depth) :=
  fn_ok (k := 0) T.F_end_depth sc_end_depth fun cdv A outer s H E hr =>
    (ms_cons (ms_if (mt_cmp (op_eqA hr) o_eq (me_var 0) (me_tup ma_nil) (nomark _)) (ms_one (ms_ret me_int)) ms_nil)
      (ms_one (ms_ret (me_add (me_item hr (me_item hr (me_var 0) (me_neg me_int)) me_int) me_int))))
theorem ok_is_slip (T : Txt K mg a) : FnOk P w K mg base (L2.CX P w) 4 a.f_is_slip a.d_is_slip ["bits", "key", "thing"] (spM K mg 3 m_is_slip) :=
  fn_ok (k := 3) T.F_is_slip sc_is_slip fun cdv A outer s H E hr =>
    (ms_cons (ms_if (mw_pt (mw_or (mt_not (mt_tru (me_isi T.z_isinstance (me_var 2) (me_ty (by rfl) T.z_tuple (by decide +kernel))))) (mw_or1 (mt_cmp (op_neA hr) o_ne (me_len T.z_len (me_var 2)) me_int (nomark _))))) (ms_one (ms_ret me_bl)) ms_nil)
      (ms_cons (ms_asgT (me_var 2) (mg_tup (mgs_cons (i := 3) (mgs_cons (i := 4) mgs_nil sc_is_slip.nd) sc_is_slip.nd)))
      (ms_cons (ms_if (mw_pt (mw_or (mt_not (mt_tru (me_call (ok_are_steps T) hr T.F_are_steps.kp T.g_are_steps T.b_are_steps (takes_of rfl rfl rfl rfl) (ma_cons (me_var 0) (ma_cons (me_var 3) ma_nil)) (len_cons (len_cons len_nil))))) (mw_or (mt_not (mt_tru (me_isi T.z_isinstance (me_var 4) (me_ty (by rfl) T.z_tuple (by decide +kernel))))) (mw_or1 (mt_cmp (op_eqA hr) o_eq (me_var 4) (me_tup ma_nil) (nomark _)))))) (ms_one (ms_ret me_bl)) ms_nil)
      (ms_cons (ms_if (mt_cmp (op_eqA hr) o_eq (me_item hr (me_var 4) me_int) me_str (nomark _)) (ms_one (ms_ret (me_call (ok_is_leaf_end T) hr T.F_is_leaf_end.kp T.g_is_leaf_end T.b_is_leaf_end (takes_of rfl rfl rfl rfl) (ma_cons (me_var 0) (ma_cons (me_var 1) (ma_cons (me_call (ok_end_depth T) hr T.F_end_depth.kp T.g_end_depth T.b_end_depth (takes_of rfl rfl rfl rfl) (ma_cons (me_var 3) ma_nil) (len_cons len_nil)) (ma_cons (me_var 4) ma_nil)))) (len_cons (len_cons (len_cons (len_cons len_nil))))))) ms_nil)
      (ms_cons (ms_if (mt_cmp (op_eqA hr) o_eq (me_item hr (me_var 4) me_int) me_str (nomark _)) (ms_one (ms_ret (me_call (ok_is_fork_end T) hr T.F_is_fork_end.kp T.g_is_fork_end T.b_is_fork_end (takes_of rfl rfl rfl rfl) (ma_cons (me_var 0) (ma_cons (me_var 1) (ma_cons (me_call (ok_end_depth T) hr T.F_end_depth.kp T.g_end_depth T.b_end_depth (takes_of rfl rfl rfl rfl) (ma_cons (me_var 3) ma_nil) (len_cons len_nil)) (ma_cons (me_var 4) ma_nil)))) (len_cons (len_cons (len_cons (len_cons len_nil))))))) ms_nil)
      (ms_one (ms_ret (me_and (me_cmp (op_eqA hr) o_eq (me_var 3) (me_tup ma_nil) (nomark _)) (me_one (me_cmp (op_eqA hr) o_eq (me_var 4) (me_tup (ma_cons me_str ma_nil)) (nomark _)))))))))))
theorem ok__law_deep (T : Txt K mg a) : FnOk P w K mg base (L2.CX P w) 1 a.f__law_deep a.d__law_deep ["_law_thing"] (spM K mg 1 m__law_deep) :=
  fn_ok (k := 0) T.F__law_deep sc__law_deep fun cdv A outer s H E hr =>
    (ms_cons (ms_for (passes_of rfl) (mi_range1 T.z_range me_int) (mg_name (i := 1) sc__law_deep.nd) (ms_one (ms_asg (i := 0) sc__law_deep.nd (me_lst (ma_cons (me_var 0) ma_nil)))))
      (ms_one (ms_ret (me_var 0))))
theorem ok__law_bad_leaves (T : Txt K mg a) : FnOk P w K mg base (L2.CX P w) 2 a.f__law_bad_leaves a.d__law_bad_leaves ["_law_bits_here", "_law_key_here", "_law_low", "_law_number"] (spM K mg 4 m__law_bad_leaves) :=
  fn_ok (k := 1) T.F__law_bad_leaves sc__law_bad_leaves fun cdv A outer s H E hr =>
    (ms_cons (ms_asg (i := 4) sc__law_bad_leaves.nd (me_lst (ma_cons (me_tup (ma_cons me_str (ma_cons (me_var 1) ma_nil))) (ma_cons (me_tup (ma_cons me_str (ma_cons (me_var 1) (ma_cons me_str (ma_cons me_str ma_nil))))) (ma_cons (me_lst (ma_cons me_str (ma_cons (me_var 1) (ma_cons me_str ma_nil)))) (ma_cons (me_tup (ma_cons me_str (ma_cons (me_var 1) (ma_cons me_str ma_nil)))) (ma_cons (me_tup (ma_cons me_str (ma_cons me_int ma_nil))) (ma_cons (me_tup ma_nil) ma_nil))))))))
      (ms_cons (ms_asg (i := 4) sc__law_bad_leaves.nd (me_add (me_var 4) (me_lst (ma_cons (me_tup (ma_cons me_str (ma_cons me_int ma_nil))) (ma_cons me_non (ma_cons me_str (ma_cons (me_tup (ma_cons me_str (ma_cons (me_neg me_int) (ma_cons me_str ma_nil)))) (ma_cons (me_tup (ma_cons me_str (ma_cons (me_shl me_int (me_var 0)) (ma_cons me_str ma_nil)))) (ma_cons (me_tup (ma_cons me_str (ma_cons me_bl (ma_cons me_str ma_nil)))) ma_nil)))))))))
      (ms_cons (ms_asg (i := 4) sc__law_bad_leaves.nd (me_add (me_var 4) (me_lst (ma_cons (me_tup (ma_cons me_str (ma_cons me_non (ma_cons me_str ma_nil)))) (ma_cons (me_tup (ma_cons me_str (ma_cons me_str (ma_cons me_str ma_nil)))) (ma_cons (me_tup (ma_cons me_str (ma_cons (me_var 1) (ma_cons (me_mulA me_str me_int) ma_nil)))) (ma_cons (me_tup (ma_cons me_str (ma_cons (me_var 1) (ma_cons me_non ma_nil)))) ma_nil)))))))
      (ms_cons (ms_asg (i := 4) sc__law_bad_leaves.nd (me_add (me_var 4) (me_lst (ma_cons (me_tup (ma_cons me_str (ma_cons (me_var 1) (ma_cons me_int ma_nil)))) (ma_cons (me_tup (ma_cons me_str (ma_cons (me_var 1) (ma_cons (me_lst (ma_cons me_str ma_nil)) ma_nil)))) (ma_cons (me_lst (ma_cons me_str ma_nil)) (ma_cons me_dk (ma_cons (me_tup (ma_cons me_str ma_nil)) (ma_cons (me_tup (ma_cons me_non (ma_cons (me_var 1) (ma_cons me_str ma_nil)))) (ma_cons (me_tup (ma_cons me_str ma_nil)) ma_nil))))))))))
      (ms_cons (ms_asg (i := 4) sc__law_bad_leaves.nd (me_add (me_var 4) (me_lst (ma_cons (me_tup (ma_cons me_str (ma_cons (me_add (me_var 1) (me_shl me_int (me_var 0))) (ma_cons me_str ma_nil)))) (ma_cons (me_tup (ma_cons me_str (ma_cons (me_var 1) (ma_cons (me_tup (ma_cons me_str ma_nil)) ma_nil)))) (ma_cons (me_tup (ma_cons (me_tup (ma_cons me_str ma_nil)) ma_nil)) (ma_cons (me_tup (ma_cons me_str (ma_cons (me_call (ok__law_deep T) hr T.F__law_deep.kp T.g__law_deep T.b__law_deep (takes_of rfl rfl rfl rfl) (ma_cons (me_var 1) ma_nil) (len_cons len_nil)) (ma_cons me_str ma_nil)))) ma_nil)))))))
      (ms_cons (ms_asg (i := 4) sc__law_bad_leaves.nd (me_add (me_var 4) (me_lst (ma_cons (me_tup (ma_cons me_str (ma_cons (me_cmp op_gt o_gt (me_var 1) me_int (nomark _)) (ma_cons me_str ma_nil)))) (ma_cons (me_tup (ma_cons me_str (ma_cons (me_mulA (me_pow me_int me_int) (me_pow me_int me_int)) (ma_cons me_str ma_nil)))) (ma_cons (me_tup (ma_cons me_str (ma_cons (me_neg (me_pow me_int me_int)) (ma_cons me_str ma_nil)))) ma_nil))))))
      (ms_cons (ms_if (mt_cmp op_gt o_gt (me_var 2) me_int (nomark _)) (ms_cons (ms_asg (i := 5) sc__law_bad_leaves.nd (me_shl me_int (me_sub (me_sub (me_var 0) me_int) (me_mod (me_var 3) (me_var 2)))))
      (ms_one (ms_asg (i := 4) sc__law_bad_leaves.nd (me_add (me_var 4) (me_lst (ma_cons (me_tup (ma_cons me_str ma_nil)) (ma_cons (me_tup (ma_cons me_str (ma_cons (me_xor (me_var 1) (me_var 5)) (ma_cons me_str ma_nil)))) (ma_cons (me_tup (ma_cons me_str (ma_cons (me_xor (me_var 1) (me_var 5)) (ma_cons me_str ma_nil)))) ma_nil)))))))) ms_nil)
      (ms_one (ms_ret (me_var 4))))))))))
theorem ok__law_bad_forks (T : Txt K mg a) : FnOk P w K mg base (L2.CX P w) 1 a.f__law_bad_forks a.d__law_bad_forks ["_law_bits_here", "_law_key_here", "_law_low", "_law_number"] (spM K mg 4 m__law_bad_forks) :=
  fn_ok (k := 0) T.F__law_bad_forks sc__law_bad_forks fun cdv A outer s H E hr =>
    (ms_cons (ms_asg (i := 4) sc__law_bad_forks.nd (me_shr (me_var 1) (me_sub (me_var 0) (me_var 2))))
      (ms_cons (ms_asg (i := 5) sc__law_bad_forks.nd (me_lst (ma_cons (me_tup (ma_cons me_str (ma_cons (me_var 2) (ma_cons (me_var 4) (ma_cons me_int (ma_cons me_int ma_nil)))))) (ma_cons (me_tup (ma_cons me_str (ma_cons (me_var 2) (ma_cons (me_xor (me_var 4) me_int) (ma_cons me_int (ma_cons me_int ma_nil)))))) (ma_cons (me_tup (ma_cons me_str (ma_cons (me_var 0) (ma_cons (me_xor (me_var 1) me_int) (ma_cons me_int (ma_cons me_int ma_nil)))))) ma_nil)))))
      (ms_cons (ms_asg (i := 5) sc__law_bad_forks.nd (me_add (me_var 5) (me_lst (ma_cons (me_tup (ma_cons me_str (ma_cons me_bl (ma_cons me_int (ma_cons me_int (ma_cons me_int ma_nil)))))) (ma_cons (me_tup (ma_cons me_str (ma_cons (me_neg me_int) (ma_cons me_int (ma_cons me_int (ma_cons me_int ma_nil)))))) (ma_cons (me_tup (ma_cons me_str ma_nil)) (ma_cons (me_tup (ma_cons me_str (ma_cons me_non (ma_cons me_int (ma_cons me_int (ma_cons me_int ma_nil)))))) ma_nil)))))))
      (ms_cons (ms_asg (i := 6) sc__law_bad_forks.nd (me_mulA (me_pow me_int me_int) (me_pow me_int me_int)))
      (ms_cons (ms_asg (i := 5) sc__law_bad_forks.nd (me_add (me_var 5) (me_lst (ma_cons (me_tup (ma_cons me_str (ma_cons (me_var 6) (ma_cons (me_var 4) (ma_cons me_int (ma_cons me_int ma_nil)))))) (ma_cons (me_tup (ma_cons me_str (ma_cons (me_neg (me_var 6)) (ma_cons (me_var 4) (ma_cons me_int (ma_cons me_int ma_nil)))))) (ma_cons (me_tup (ma_cons me_str (ma_cons (me_var 0) (ma_cons (me_var 6) (ma_cons me_int (ma_cons me_int ma_nil)))))) ma_nil))))))
      (ms_cons (ms_asg (i := 7) sc__law_bad_forks.nd (me_add me_int (me_mod (me_var 3) me_int)))
      (ms_cons (ms_asg (i := 5) sc__law_bad_forks.nd (me_add (me_var 5) (me_lst (ma_cons (me_tup (ma_cons me_str (ma_cons (me_add (me_var 0) (me_var 7)) (ma_cons (me_xor (me_shl (me_var 1) (me_var 7)) me_int) (ma_cons me_int (ma_cons me_int ma_nil)))))) (ma_cons (me_tup (ma_cons me_str (ma_cons (me_add (me_var 0) (me_var 7)) (ma_cons me_int (ma_cons me_int (ma_cons me_int ma_nil)))))) ma_nil)))))
      (ms_cons (ms_if (mt_cmp op_lt o_lt (me_add (me_var 2) me_int) (me_var 0) (nomark _)) (ms_cons (ms_asg (i := 8) sc__law_bad_forks.nd (me_add (me_add (me_var 2) me_int) (me_mod (me_var 3) (me_sub (me_sub (me_var 0) me_int) (me_var 2)))))
      (ms_cons (ms_asg (i := 9) sc__law_bad_forks.nd (me_shr (me_var 1) (me_sub (me_var 0) (me_var 8))))
      (ms_cons (ms_asg (i := 10) sc__law_bad_forks.nd (me_xor (me_var 9) me_int))
      (ms_cons (ms_asg (i := 5) sc__law_bad_forks.nd (me_add (me_var 5) (me_lst (ma_cons (me_tup (ma_cons me_str (ma_cons (me_var 8) (ma_cons (me_cmp op_gt o_gt (me_var 10) me_int (nomark _)) (ma_cons me_int (ma_cons me_int ma_nil)))))) (ma_cons (me_tup (ma_cons me_str (ma_cons (me_var 8) (ma_cons (me_var 6) (ma_cons me_int (ma_cons me_int ma_nil)))))) (ma_cons (me_tup (ma_cons me_str (ma_cons (me_var 8) (ma_cons (me_var 10) (ma_cons (me_var 6) (ma_cons me_int ma_nil)))))) ma_nil))))))
      (ms_cons (ms_asg (i := 5) sc__law_bad_forks.nd (me_add (me_var 5) (me_lst (ma_cons (me_tup (ma_cons me_str (ma_cons (me_var 8) (ma_cons (me_var 10) (ma_cons (me_pow me_int me_int) (ma_cons me_int ma_nil)))))) (ma_cons (me_tup (ma_cons me_str (ma_cons (me_var 8) (ma_cons (me_var 10) (ma_cons me_bl (ma_cons me_int ma_nil)))))) ma_nil)))))
      (ms_cons (ms_asg (i := 5) sc__law_bad_forks.nd (me_add (me_var 5) (me_lst (ma_cons (me_tup (ma_cons me_str (ma_cons (me_var 8) (ma_cons (me_var 10) (ma_cons (me_lst (ma_cons me_int ma_nil)) (ma_cons me_int ma_nil)))))) ma_nil))))
      (ms_cons (ms_asg (i := 5) sc__law_bad_forks.nd (me_add (me_var 5) (me_lst (ma_cons (me_tup (ma_cons me_str (ma_cons (me_var 8) (ma_cons (me_var 10) (ma_cons me_int (ma_cons (me_neg me_int) ma_nil)))))) (ma_cons (me_tup (ma_cons me_str (ma_cons (me_var 8) (ma_cons (me_var 10) (ma_cons me_int (ma_cons me_non ma_nil)))))) (ma_cons (me_tup (ma_cons me_str (ma_cons (me_var 8) (ma_cons (me_var 10) (ma_cons me_int (ma_cons (me_tup (ma_cons me_int ma_nil)) ma_nil)))))) ma_nil))))))
      (ms_cons (ms_asg (i := 5) sc__law_bad_forks.nd (me_add (me_var 5) (me_lst (ma_cons (me_tup (ma_cons me_str (ma_cons (me_var 8) (ma_cons (me_var 9) (ma_cons me_int (ma_cons me_int ma_nil)))))) (ma_cons (me_tup (ma_cons me_str (ma_cons (me_var 8) (ma_cons (me_neg me_int) (ma_cons me_int (ma_cons me_int ma_nil)))))) (ma_cons (me_tup (ma_cons me_str (ma_cons (me_var 8) (ma_cons (me_var 10) (ma_cons me_int ma_nil))))) ma_nil))))))
      (ms_cons (ms_asg (i := 5) sc__law_bad_forks.nd (me_add (me_var 5) (me_lst (ma_cons (me_tup (ma_cons me_str (ma_cons (me_var 8) (ma_cons (me_add (me_var 10) (me_shl me_int (me_var 8))) (ma_cons me_int (ma_cons me_int ma_nil)))))) (ma_cons (me_tup (ma_cons me_str (ma_cons (me_var 8) (ma_cons (me_var 10) (ma_cons me_int (ma_cons me_int (ma_cons me_int ma_nil))))))) ma_nil)))))
      (ms_cons (ms_asg (i := 5) sc__law_bad_forks.nd (me_add (me_var 5) (me_lst (ma_cons (me_tup (ma_cons me_str (ma_cons (me_var 8) (ma_cons (me_var 10) (ma_cons (me_neg me_int) (ma_cons me_int ma_nil)))))) (ma_cons (me_tup (ma_cons me_str (ma_cons (me_var 8) (ma_cons (me_var 10) (ma_cons me_int (ma_cons (me_pow me_int me_int) ma_nil)))))) (ma_cons (me_lst (ma_cons me_str (ma_cons (me_var 8) (ma_cons (me_var 10) (ma_cons me_int (ma_cons me_int ma_nil)))))) ma_nil))))))
      (ms_cons (ms_asg (i := 5) sc__law_bad_forks.nd (me_add (me_var 5) (me_lst (ma_cons (me_tup (ma_cons me_str (ma_cons (me_var 8) (ma_cons (me_var 10) (ma_cons me_non (ma_cons me_int ma_nil)))))) (ma_cons (me_tup (ma_cons me_str (ma_cons (me_var 8) (ma_cons (me_var 10) (ma_cons me_int (ma_cons me_bl ma_nil)))))) (ma_cons (me_tup (ma_cons me_str (ma_cons (me_var 8) (ma_cons me_non (ma_cons me_int (ma_cons me_int ma_nil)))))) ma_nil))))))
      (ms_cons (ms_asg (i := 5) sc__law_bad_forks.nd (me_add (me_var 5) (me_lst (ma_cons (me_tup (ma_cons me_str (ma_cons (me_var 8) (ma_cons me_str (ma_cons me_int (ma_cons me_int ma_nil)))))) (ma_cons (me_tup (ma_cons me_str (ma_cons (me_str1 T.z_str (me_var 8)) (ma_cons (me_var 10) (ma_cons me_int (ma_cons me_int ma_nil)))))) (ma_cons (me_tup (ma_cons me_str (ma_cons (me_var 8) (ma_cons (me_var 10) (ma_cons me_int (ma_cons me_int ma_nil)))))) ma_nil))))))
      (ms_one (ms_if (mt_cmp op_gt o_gt (me_var 2) me_int (nomark _)) (ms_cons (ms_asg (i := 11) sc__law_bad_forks.nd (me_shl me_int (me_sub (me_sub (me_var 8) me_int) (me_mod (me_var 3) (me_var 2)))))
      (ms_one (ms_asg (i := 5) sc__law_bad_forks.nd (me_add (me_var 5) (me_lst (ma_cons (me_tup (ma_cons me_str (ma_cons (me_var 8) (ma_cons (me_xor (me_var 10) (me_var 11)) (ma_cons me_int (ma_cons me_int ma_nil)))))) (ma_cons (me_tup (ma_cons me_str (ma_cons (me_var 8) (ma_cons (me_xor (me_var 10) (me_var 11)) (ma_cons me_str (ma_cons me_str ma_nil)))))) ma_nil))))))) ms_nil)))))))))))))) ms_nil)
      (ms_one (ms_ret (me_var 5)))))))))))
theorem ok__law_bad_steps (T : Txt K mg a) : FnOk P w K mg base (L2.CX P w) 2 a.f__law_bad_steps a.d__law_bad_steps ["_law_cell", "_law_steps_here", "_law_bits_here"] (spM K mg 3 m__law_bad_steps) :=
  fn_ok (k := 1) T.F__law_bad_steps sc__law_bad_steps fun cdv A outer s H E hr =>
    (ms_cons (ms_asg (i := 3) sc__law_bad_steps.nd (me_mod (me_div (me_var 0) me_int) (me_len T.z_len (me_var 1))))
      (ms_cons (ms_asgT (me_item hr (me_var 1) (me_var 3)) (mg_tup (mgs_cons (i := 7) (mgs_cons (i := 8) mgs_nil sc__law_bad_steps.nd) sc__law_bad_steps.nd)))
      (ms_cons (ms_asg (i := 4) sc__law_bad_steps.nd (me_lst (ma_cons (me_tup (ma_cons (me_var 7) ma_nil)) (ma_cons (me_tup (ma_cons (me_var 7) (ma_cons (me_var 8) (ma_cons (me_var 8) ma_nil)))) (ma_cons (me_lst (ma_cons (me_var 7) (ma_cons (me_var 8) ma_nil))) (ma_cons (me_var 7) (ma_cons me_non (ma_cons (me_tup (ma_cons (me_neg me_int) (ma_cons (me_var 8) ma_nil))) (ma_cons (me_tup (ma_cons (me_var 2) (ma_cons (me_var 8) ma_nil))) ma_nil)))))))))
      (ms_cons (ms_asg (i := 4) sc__law_bad_steps.nd (me_add (me_var 4) (me_lst (ma_cons (me_tup (ma_cons me_bl (ma_cons (me_var 8) ma_nil))) (ma_cons (me_tup (ma_cons me_non (ma_cons (me_var 8) ma_nil))) (ma_cons (me_tup (ma_cons me_str (ma_cons (me_var 8) ma_nil))) (ma_cons (me_tup (ma_cons (me_add (me_var 2) (me_var 7)) (ma_cons (me_var 8) ma_nil))) (ma_cons (me_tup (ma_cons (me_var 7) (ma_cons (me_neg me_int) ma_nil))) ma_nil))))))))
      (ms_cons (ms_asg (i := 4) sc__law_bad_steps.nd (me_add (me_var 4) (me_lst (ma_cons (me_tup (ma_cons (me_var 7) (ma_cons (me_pow me_int me_int) ma_nil))) (ma_cons (me_tup (ma_cons (me_var 7) (ma_cons me_non ma_nil))) (ma_cons (me_tup (ma_cons (me_var 7) (ma_cons me_bl ma_nil))) (ma_cons (me_tup (ma_cons (me_var 7) (ma_cons (me_lst (ma_cons (me_var 8) ma_nil)) ma_nil))) (ma_cons (me_tup (ma_cons (me_var 7) (ma_cons (me_tup (ma_cons (me_var 8) ma_nil)) ma_nil))) ma_nil))))))))
      (ms_cons (ms_asg (i := 4) sc__law_bad_steps.nd (me_add (me_var 4) (me_lst (ma_cons (me_tup (ma_cons (me_var 7) (ma_cons (me_call (ok__law_deep T) hr T.F__law_deep.kp T.g__law_deep T.b__law_deep (takes_of rfl rfl rfl rfl) (ma_cons (me_var 8) ma_nil) (len_cons len_nil)) ma_nil))) (ma_cons (me_call (ok__law_deep T) hr T.F__law_deep.kp T.g__law_deep T.b__law_deep (takes_of rfl rfl rfl rfl) (ma_cons (me_var 7) ma_nil) (len_cons len_nil)) (ma_cons (me_tup (ma_cons (me_var 7) (ma_cons me_dk ma_nil))) (ma_cons (me_tup (ma_cons me_bl (ma_cons (me_var 8) ma_nil))) ma_nil)))))))
      (ms_cons (ms_asg (i := 5) sc__law_bad_steps.nd (me_mulA (me_pow me_int me_int) (me_pow me_int me_int)))
      (ms_cons (ms_asg (i := 4) sc__law_bad_steps.nd (me_add (me_var 4) (me_lst (ma_cons (me_tup (ma_cons (me_var 5) (ma_cons (me_var 8) ma_nil))) (ma_cons (me_tup (ma_cons (me_neg (me_var 5)) (ma_cons (me_var 8) ma_nil))) (ma_cons (me_tup (ma_cons (me_var 7) (ma_cons (me_var 5) ma_nil))) (ma_cons (me_tup (ma_cons (me_var 7) (ma_cons (me_neg (me_var 5)) ma_nil))) (ma_cons (me_tup (ma_cons (me_var 7) (ma_cons me_bl ma_nil))) (ma_cons (me_tup (ma_cons (me_cmp op_gt o_gt (me_var 7) me_int (nomark _)) (ma_cons (me_var 8) ma_nil))) ma_nil)))))))))
      (ms_cons (ms_asg (i := 6) sc__law_bad_steps.nd (me_list1 T.z_list (me_var 1)))
      (ms_cons (ms_if (mt_cmp (op_eqA hr) o_eq (me_mod (me_var 0) me_int) me_int (nomark _)) (ms_one (ms_expr (me_insert (me_var 6) (me_var 3) (me_item hr (me_var 1) (me_var 3))))) (ms_one (ms_if (mw_pt (mw_and (mt_cmp (op_eqA hr) o_eq (me_mod (me_var 0) me_int) me_int (nomark _)) (mw_and1 (mt_cmp op_gt o_gt (me_len T.z_len (me_var 1)) me_int (nomark _))))) (ms_one (ms_expr (me_revl (me_var 6)))) (ms_one (ms_if (mw_pt (mw_and (mt_cmp (op_eqA hr) o_eq (me_mod (me_var 0) me_int) me_int (nomark _)) (mw_and1 (mt_cmp op_lt o_lt (me_add (me_var 3) me_int) (me_len T.z_len (me_var 1)) (nomark _))))) (ms_cons (ms_put hr (me_var 6) (me_var 3) (me_item hr (me_var 1) (me_add (me_var 3) me_int)))
      (ms_one (ms_put hr (me_var 6) (me_add (me_var 3) me_int) (me_item hr (me_var 1) (me_var 3))))) (ms_one (ms_if (mw_pt (mw_and (mt_cmp (op_eqA hr) o_eq (me_mod (me_var 0) me_int) me_int (nomark _)) (mw_and1 (mt_cmp op_gt o_gt (me_var 3) me_int (nomark _))))) (ms_one (ms_put hr (me_var 6) (me_var 3) (me_tup (ma_cons (me_item hr (me_item hr (me_var 1) (me_sub (me_var 3) me_int)) me_int) (ma_cons (me_var 8) ma_nil))))) (ms_one (ms_put hr (me_var 6) (me_var 3) (me_item hr (me_var 4) (me_mod (me_div (me_var 0) me_int) (me_len T.z_len (me_var 4)))))))))))))
      (ms_one (ms_ret (me_tuple1 T.z_tuple (me_var 6))))))))))))))
theorem ok__law_bad (T : Txt K mg a) : FnOk P w K mg base (L2.CX P w) 3 a.f__law_bad a.d__law_bad ["_law_cell", "_law_bits_here", "_law_key_here", "_law_steps_here", "_law_end_here", "_law_low"] (spM K mg 6 m__law_bad) :=
  fn_ok (k := 2) T.F__law_bad sc__law_bad fun cdv A outer s H E hr =>
    (ms_cons (ms_asg (i := 6) sc__law_bad.nd (me_div (me_var 0) me_int))
      (ms_cons (ms_if (mw_pt (mw_and (mt_cmp (op_eqA hr) o_eq (me_mod (me_var 0) me_int) me_int (nomark _)) (mw_and1 (mt_cmp (op_neA hr) o_ne (me_var 3) (me_tup ma_nil) (nomark _))))) (ms_one (ms_ret (me_tup (ma_cons (me_call (ok__law_bad_steps T) hr T.F__law_bad_steps.kp T.g__law_bad_steps T.b__law_bad_steps (takes_of rfl rfl rfl rfl) (ma_cons (me_var 6) (ma_cons (me_var 3) (ma_cons (me_var 1) ma_nil))) (len_cons (len_cons (len_cons len_nil)))) (ma_cons (me_var 4) ma_nil))))) ms_nil)
      (ms_cons (ms_if (mt_cmp (op_eqA hr) o_eq (me_mod (me_var 0) me_int) me_int (nomark _)) (ms_cons (ms_asg (i := 7) sc__law_bad.nd (me_call (ok__law_bad_leaves T) hr T.F__law_bad_leaves.kp T.g__law_bad_leaves T.b__law_bad_leaves (takes_of rfl rfl rfl rfl) (ma_cons (me_var 1) (ma_cons (me_var 2) (ma_cons (me_var 5) (ma_cons (me_div (me_var 6) me_int) ma_nil)))) (len_cons (len_cons (len_cons (len_cons len_nil))))))
      (ms_one (ms_ret (me_tup (ma_cons (me_var 3) (ma_cons (me_item hr (me_var 7) (me_mod (me_var 6) (me_len T.z_len (me_var 7)))) ma_nil)))))) ms_nil)
      (ms_cons (ms_if (mt_cmp (op_eqA hr) o_eq (me_mod (me_var 0) me_int) me_int (nomark _)) (ms_cons (ms_asg (i := 7) sc__law_bad.nd (me_call (ok__law_bad_forks T) hr T.F__law_bad_forks.kp T.g__law_bad_forks T.b__law_bad_forks (takes_of rfl rfl rfl rfl) (ma_cons (me_var 1) (ma_cons (me_var 2) (ma_cons (me_var 5) (ma_cons (me_div (me_var 6) me_int) ma_nil)))) (len_cons (len_cons (len_cons (len_cons len_nil))))))
      (ms_one (ms_ret (me_tup (ma_cons (me_var 3) (ma_cons (me_item hr (me_var 7) (me_mod (me_var 6) (me_len T.z_len (me_var 7)))) ma_nil)))))) ms_nil)
      (ms_cons (ms_asg (i := 7) sc__law_bad.nd (me_lst (ma_cons (me_lst (ma_cons (me_var 3) (ma_cons (me_var 4) ma_nil))) (ma_cons (me_tup (ma_cons (me_var 3) ma_nil)) (ma_cons (me_tup (ma_cons (me_var 3) (ma_cons (me_var 4) (ma_cons (me_var 4) ma_nil)))) (ma_cons (me_tup (ma_cons (me_list1 T.z_list (me_var 3)) (ma_cons (me_var 4) ma_nil))) (ma_cons (me_tup (ma_cons (me_var 3) (ma_cons (me_list1 T.z_list (me_var 4)) ma_nil))) (ma_cons me_non (ma_cons me_str (ma_cons me_int (ma_cons me_bl ma_nil)))))))))))
      (ms_cons (ms_asg (i := 7) sc__law_bad.nd (me_add (me_var 7) (me_lst (ma_cons (me_tup ma_nil) (ma_cons (me_lst ma_nil) (ma_cons me_dk (ma_cons (me_tup (ma_cons me_str ma_nil)) (ma_cons (me_var 2) (ma_cons me_str (ma_cons (me_tup (ma_cons (me_var 4) (ma_cons (me_var 3) ma_nil))) (ma_cons (me_var 3) (ma_cons (me_var 4) (ma_cons (me_tup (ma_cons me_non (ma_cons (me_var 4) ma_nil))) (ma_cons (me_tup (ma_cons (me_var 3) (ma_cons me_non ma_nil))) ma_nil))))))))))))))
      (ms_cons (ms_asg (i := 7) sc__law_bad.nd (me_add (me_var 7) (me_lst (ma_cons (me_tup (ma_cons (me_var 3) (ma_cons (me_tup (ma_cons (me_var 4) ma_nil)) ma_nil))) (ma_cons (me_tup (ma_cons (me_tup (ma_cons (me_var 3) ma_nil)) (ma_cons (me_var 4) ma_nil))) (ma_cons (me_call (ok__law_deep T) hr T.F__law_deep.kp T.g__law_deep T.b__law_deep (takes_of rfl rfl rfl rfl) (ma_cons (me_var 4) ma_nil) (len_cons len_nil)) (ma_cons (me_tup (ma_cons me_str (ma_cons (me_var 4) ma_nil))) (ma_cons (me_tup (ma_cons me_dk (ma_cons (me_var 4) ma_nil))) ma_nil))))))))
      (ms_one (ms_ret (me_item hr (me_var 7) (me_mod (me_var 6) (me_len T.z_len (me_var 7)))))))))))))
theorem ok__law_good (T : Txt K mg a) : FnOk P w K mg base (L2.CX P w) 2 a.f__law_good a.d__law_good ["_law_bits_here", "_law_key_here", "_law_steps_here", "_law_low", "_law_number"] (spM K mg 5 m__law_good) :=
  fn_ok (k := 1) T.F__law_good sc__law_good fun cdv A outer s H E hr =>
    (ms_cons (ms_asg (i := 5) sc__law_good.nd (me_lst (ma_cons (me_tup (ma_cons me_str (ma_cons (me_var 1) (ma_cons me_str ma_nil)))) (ma_cons (me_tup (ma_cons me_str (ma_cons (me_var 1) (ma_cons (me_mulA me_str me_int) ma_nil)))) (ma_cons (me_tup (ma_cons me_str (ma_cons (me_var 1) (ma_cons (me_call (ok__law_text T) hr T.F__law_text.kp T.g__law_text T.b__law_text (takes_of rfl rfl rfl rfl) (ma_cons (me_var 4) ma_nil) (len_cons len_nil)) ma_nil)))) ma_nil)))))
      (ms_cons (ms_if (mt_cmp (op_eqA hr) o_eq (me_var 2) (me_tup ma_nil) (nomark _)) (ms_one (ms_expr (me_append (me_var 5) (me_tup (ma_cons me_str ma_nil))))) ms_nil)
      (ms_cons (ms_if (mt_cmp op_lt o_lt (me_var 3) (me_var 0) (nomark _)) (ms_one (ms_expr (me_append (me_var 5) (me_tup (ma_cons me_str (ma_cons (me_xor (me_var 1) (me_shl me_int (me_mod (me_var 4) (me_sub (me_var 0) (me_var 3))))) (ma_cons me_str ma_nil))))))) ms_nil)
      (ms_cons (ms_if (mt_cmp op_lt o_lt (me_add (me_var 3) me_int) (me_var 0) (nomark _)) (ms_cons (ms_asg (i := 6) sc__law_good.nd (me_add (me_add (me_var 3) me_int) (me_mod (me_var 4) (me_sub (me_sub (me_var 0) me_int) (me_var 3)))))
      (ms_cons (ms_expr (me_append (me_var 5) (me_tup (ma_cons me_str (ma_cons (me_var 6) (ma_cons (me_xor (me_shr (me_var 1) (me_sub (me_var 0) (me_var 6))) me_int) (ma_cons me_int (ma_cons (me_sub (me_pow me_int me_int) me_int) ma_nil))))))))
      (ms_one (ms_expr (me_append (me_var 5) (me_tup (ma_cons me_str (ma_cons (me_var 6) (ma_cons (me_xor (me_shr (me_var 1) (me_sub (me_var 0) (me_var 6))) me_int) (ma_cons me_str (ma_cons me_str ma_nil))))))))))) ms_nil)
      (ms_one (ms_ret (me_tup (ma_cons (me_var 2) (ma_cons (me_item hr (me_var 5) (me_mod (me_div (me_var 4) me_int) (me_len T.z_len (me_var 5)))) ma_nil)))))))))
theorem ok_law (T : Txt K mg a) : FnOk P w K mg base (L2.CX P w) 5 a.f_law a.d_law ["_law_script"] (spM K mg 1 m_law) :=
  fn_ok (k := 4) T.F_law sc_law fun cdv A outer s H E hr =>
    (ms_cons (ms_asg (i := 1) sc_law.nd (me_call (ok__law_bits T) hr T.F__law_bits.kp T.g__law_bits T.b__law_bits (takes_of rfl rfl rfl rfl) (ma_cons (me_call (ok__law_at T) hr T.F__law_at.kp T.g__law_at T.b__law_at (takes_of rfl rfl rfl rfl) (ma_cons (me_var 0) (ma_cons me_int ma_nil)) (len_cons (len_cons len_nil))) ma_nil) (len_cons len_nil)))
      (ms_cons (ms_asg (i := 2) sc_law.nd (me_call (ok__law_key T) hr T.F__law_key.kp T.g__law_key T.b__law_key (takes_of rfl rfl rfl rfl) (ma_cons (me_var 1) (ma_cons (me_call (ok__law_at T) hr T.F__law_at.kp T.g__law_at T.b__law_at (takes_of rfl rfl rfl rfl) (ma_cons (me_var 0) (ma_cons me_int ma_nil)) (len_cons (len_cons len_nil))) (ma_cons (me_lst ma_nil) ma_nil))) (len_cons (len_cons (len_cons len_nil)))))
      (ms_cons (ms_asg (i := 3) sc_law.nd (me_call (ok__law_steps T) hr T.F__law_steps.kp T.g__law_steps T.b__law_steps (takes_of rfl rfl rfl rfl) (ma_cons (me_call (ok__law_at T) hr T.F__law_at.kp T.g__law_at T.b__law_at (takes_of rfl rfl rfl rfl) (ma_cons (me_var 0) (ma_cons me_int ma_nil)) (len_cons (len_cons len_nil))) (ma_cons me_int (ma_cons (me_var 1) ma_nil))) (len_cons (len_cons (len_cons len_nil)))))
      (ms_cons (ms_asg (i := 4) sc_law.nd (me_call (ok__law_place T) hr T.F__law_place.kp T.g__law_place T.b__law_place (takes_of rfl rfl rfl rfl) (ma_cons (me_var 3) (ma_cons me_int ma_nil)) (len_cons (len_cons len_nil))))
      (ms_cons (ms_asg (i := 5) sc_law.nd (me_call (ok__law_end T) hr T.F__law_end.kp T.g__law_end T.b__law_end (takes_of rfl rfl rfl rfl) (ma_cons (me_call (ok__law_at T) hr T.F__law_at.kp T.g__law_at T.b__law_at (takes_of rfl rfl rfl rfl) (ma_cons (me_var 0) (ma_cons me_int ma_nil)) (len_cons (len_cons len_nil))) (ma_cons (me_var 1) (ma_cons (me_var 2) (ma_cons (me_var 4) ma_nil)))) (len_cons (len_cons (len_cons (len_cons len_nil))))))
      (ms_cons (ms_if (mt_cmp op_isNA o_isN (me_call (ok_is_slip T) hr T.F_is_slip.kp T.g_is_slip T.b_is_slip (takes_of rfl rfl rfl rfl) (ma_cons (me_var 1) (ma_cons (me_var 2) (ma_cons (me_tup (ma_cons (me_var 3) (ma_cons (me_var 5) ma_nil))) ma_nil))) (len_cons (len_cons (len_cons len_nil)))) me_bl (nomark _)) (ms_one (ms_ret me_bl)) ms_nil)
      (ms_cons (ms_for (passes_of rfl) (mi_seq (me_add (me_slice (me_var 0) (mo_some me_int) (mo_some me_int)) (me_lst (ma_cons (me_call (ok__law_at T) hr T.F__law_at.kp T.g__law_at T.b__law_at (takes_of rfl rfl rfl rfl) (ma_cons (me_var 0) (ma_cons me_int ma_nil)) (len_cons (len_cons len_nil))) (ma_cons (me_call (ok__law_at T) hr T.F__law_at.kp T.g__law_at T.b__law_at (takes_of rfl rfl rfl rfl) (ma_cons (me_var 0) (ma_cons me_int ma_nil)) (len_cons (len_cons len_nil))) ma_nil))))) (mg_name (i := 6) sc_law.nd) (ms_cons (ms_if (mt_cmp op_isNA o_isN (me_call (ok_is_slip T) hr T.F_is_slip.kp T.g_is_slip T.b_is_slip (takes_of rfl rfl rfl rfl) (ma_cons (me_var 1) (ma_cons (me_var 2) (ma_cons (me_call (ok__law_bad T) hr T.F__law_bad.kp T.g__law_bad T.b__law_bad (takes_of rfl rfl rfl rfl) (ma_cons (me_var 6) (ma_cons (me_var 1) (ma_cons (me_var 2) (ma_cons (me_var 3) (ma_cons (me_var 5) (ma_cons (me_var 4) ma_nil)))))) (len_cons (len_cons (len_cons (len_cons (len_cons (len_cons len_nil))))))) ma_nil))) (len_cons (len_cons (len_cons len_nil)))) me_bl (nomark _)) (ms_one (ms_ret me_bl)) ms_nil)
      (ms_one (ms_if (mt_cmp op_isNA o_isN (me_call (ok_is_slip T) hr T.F_is_slip.kp T.g_is_slip T.b_is_slip (takes_of rfl rfl rfl rfl) (ma_cons (me_var 1) (ma_cons (me_var 2) (ma_cons (me_call (ok__law_good T) hr T.F__law_good.kp T.g__law_good T.b__law_good (takes_of rfl rfl rfl rfl) (ma_cons (me_var 1) (ma_cons (me_var 2) (ma_cons (me_var 3) (ma_cons (me_var 4) (ma_cons (me_mod (me_var 6) (me_pow me_int me_int)) ma_nil))))) (len_cons (len_cons (len_cons (len_cons (len_cons len_nil)))))) ma_nil))) (len_cons (len_cons (len_cons len_nil)))) me_bl (nomark _)) (ms_one (ms_ret me_bl)) ms_nil))))
      (ms_one (ms_ret (me_cmp op_isA o_is (me_call (ok_is_slip T) hr T.F_is_slip.kp T.g_is_slip T.b_is_slip (takes_of rfl rfl rfl rfl) (ma_cons (me_var 1) (ma_cons (me_var 2) (ma_cons (me_tup (ma_cons (me_var 3) (ma_cons (me_var 5) ma_nil))) ma_nil))) (len_cons (len_cons (len_cons len_nil)))) me_bl (nomark _)))))))))))
end
/-! ### what the top has written -/
theorem all_mk {P : Program} {w : World} {K : PySem.W.Frag} {h : Heap} {mg : Str → Option Value} {fa : Addr} (X : K.In h) (G : h.Ns mainGlobals mg) (hfa : mg "law" = some (.ref fa))
    {f0 f1 f2 f3 f4 f5 f6 f7 f8 f9 f10 f11 f12 f13 f14 f15 f16 f17 f18 f19 f20 f21 f22 f23 f24 : Addr} {od0 an0 od1 an1 od2 an2 od3 an3 od4 an4 od5 an5 od6 an6 od7 an7 od8 an8 od9 an9 od10 an10 od11 an11 od12 an12 od13 an13 od14 an14 od15 an15 od16 an16 od17 an17 od18 an18 od19 an19 od20 an20 od21 an21 od22 an22 od23 an23 od24 an24 : Option Addr} {sl0 sl1 sl2 sl3 sl4 sl5 sl6 sl7 sl8 sl9 sl10 sl11 sl12 sl13 sl14 sl15 sl16 sl17 sl18 sl19 sl20 sl21 sl22 sl23 sl24 : Array (Option Value)} {oc0 kV0 dc0 pm0 cd0 ct0 oc1 kV1 dc1 pm1 cd1 ct1 oc2 kV2 dc2 pm2 cd2 ct2 oc3 kV3 dc3 pm3 cd3 ct3 oc4 kV4 dc4 pm4 cd4 ct4 oc5 kV5 dc5 pm5 cd5 ct5 oc6 kV6 dc6 pm6 cd6 ct6 oc7 kV7 dc7 pm7 cd7 ct7 oc8 kV8 dc8 pm8 cd8 ct8 oc9 kV9 dc9 pm9 cd9 ct9 oc10 kV10 dc10 pm10 cd10 ct10 oc11 kV11 dc11 pm11 cd11 ct11 oc12 kV12 dc12 pm12 cd12 ct12 oc13 kV13 dc13 pm13 cd13 ct13 oc14 kV14 dc14 pm14 cd14 ct14 oc15 kV15 dc15 pm15 cd15 ct15 oc16 kV16 dc16 pm16 cd16 ct16 oc17 kV17 dc17 pm17 cd17 ct17 oc18 kV18 dc18 pm18 cd18 ct18 oc19 kV19 dc19 pm19 cd19 ct19 oc20 kV20 dc20 pm20 cd20 ct20 oc21 kV21 dc21 pm21 cd21 ct21 oc22 kV22 dc22 pm22 cd22 ct22 oc23 kV23 dc23 pm23 cd23 ct23 oc24 kV24 dc24 pm24 cd24 ct24 : Value} {t0 : Tok}
    (a0 : PySem.W.nsIn K mainGlobals "_law_bits" = some (some (.ref f0)))
    (l0 : K.lookup f0 = some ⟨oc0, od0, .func (PySem.W.fnOf "_law_bits" "_law_bits" (defArgs s__law_bits) (defBody s__law_bits) (defScope s__law_bits) .none kV0 dc0 pm0 an0 cd0 ct0), sl0⟩)
    (c0 : PySem.W.codeIn K cd0 "_law_bits" = true)
    (k0 : PySem.W.keepIn K (.ref f0) = true)
    (a1 : PySem.W.nsIn K mainGlobals "_law_key" = some (some (.ref f1)))
    (l1 : K.lookup f1 = some ⟨oc1, od1, .func (PySem.W.fnOf "_law_key" "_law_key" (defArgs s__law_key) (defBody s__law_key) (defScope s__law_key) .none kV1 dc1 pm1 an1 cd1 ct1), sl1⟩)
    (c1 : PySem.W.codeIn K cd1 "_law_key" = true)
    (k1 : PySem.W.keepIn K (.ref f1) = true)
    (a2 : PySem.W.nsIn K mainGlobals "_law_mark" = some (some (.ref f2)))
    (l2 : K.lookup f2 = some ⟨oc2, od2, .func (PySem.W.fnOf "_law_mark" "_law_mark" (defArgs s__law_mark) (defBody s__law_mark) (defScope s__law_mark) .none kV2 dc2 pm2 an2 cd2 ct2), sl2⟩)
    (c2 : PySem.W.codeIn K cd2 "_law_mark" = true)
    (k2 : PySem.W.keepIn K (.ref f2) = true)
    (a3 : PySem.W.nsIn K mainGlobals "_law_steps" = some (some (.ref f3)))
    (l3 : K.lookup f3 = some ⟨oc3, od3, .func (PySem.W.fnOf "_law_steps" "_law_steps" (defArgs s__law_steps) (defBody s__law_steps) (defScope s__law_steps) .none kV3 dc3 pm3 an3 cd3 ct3), sl3⟩)
    (c3 : PySem.W.codeIn K cd3 "_law_steps" = true)
    (k3 : PySem.W.keepIn K (.ref f3) = true)
    (a4 : PySem.W.nsIn K mainGlobals "_law_place" = some (some (.ref f4)))
    (l4 : K.lookup f4 = some ⟨oc4, od4, .func (PySem.W.fnOf "_law_place" "_law_place" (defArgs s__law_place) (defBody s__law_place) (defScope s__law_place) .none kV4 dc4 pm4 an4 cd4 ct4), sl4⟩)
    (c4 : PySem.W.codeIn K cd4 "_law_place" = true)
    (k4 : PySem.W.keepIn K (.ref f4) = true)
    (a5 : PySem.W.nsIn K mainGlobals "_law_text" = some (some (.ref f5)))
    (l5 : K.lookup f5 = some ⟨oc5, od5, .func (PySem.W.fnOf "_law_text" "_law_text" (defArgs s__law_text) (defBody s__law_text) (defScope s__law_text) .none kV5 dc5 pm5 an5 cd5 ct5), sl5⟩)
    (c5 : PySem.W.codeIn K cd5 "_law_text" = true)
    (k5 : PySem.W.keepIn K (.ref f5) = true)
    (a6 : PySem.W.nsIn K mainGlobals "_law_end" = some (some (.ref f6)))
    (l6 : K.lookup f6 = some ⟨oc6, od6, .func (PySem.W.fnOf "_law_end" "_law_end" (defArgs s__law_end) (defBody s__law_end) (defScope s__law_end) .none kV6 dc6 pm6 an6 cd6 ct6), sl6⟩)
    (c6 : PySem.W.codeIn K cd6 "_law_end" = true)
    (k6 : PySem.W.keepIn K (.ref f6) = true)
    (a7 : PySem.W.nsIn K mainGlobals "_law_at" = some (some (.ref f7)))
    (l7 : K.lookup f7 = some ⟨oc7, od7, .func (PySem.W.fnOf "_law_at" "_law_at" (defArgs s__law_at) (defBody s__law_at) (defScope s__law_at) .none kV7 dc7 pm7 an7 cd7 ct7), sl7⟩)
    (c7 : PySem.W.codeIn K cd7 "_law_at" = true)
    (k7 : PySem.W.keepIn K (.ref f7) = true)
    (a8 : PySem.W.nsIn K mainGlobals "start" = some (some (.ref f8)))
    (l8 : K.lookup f8 = some ⟨oc8, od8, .func (PySem.W.fnOf "start" "start" (defArgs s_start) (defBody s_start) (defScope s_start) .none kV8 dc8 pm8 an8 cd8 ct8), sl8⟩)
    (c8 : PySem.W.codeIn K cd8 "start" = true)
    (k8 : PySem.W.keepIn K (.ref f8) = true)
    (a9 : PySem.W.nsIn K mainGlobals "is_whole" = some (some (.ref f9)))
    (l9 : K.lookup f9 = some ⟨oc9, od9, .func (PySem.W.fnOf "is_whole" "is_whole" (defArgs s_is_whole) (defBody s_is_whole) (defScope s_is_whole) .none kV9 dc9 pm9 an9 cd9 ct9), sl9⟩)
    (c9 : PySem.W.codeIn K cd9 "is_whole" = true)
    (k9 : PySem.W.keepIn K (.ref f9) = true)
    (a10 : PySem.W.nsIn K mainGlobals "is_key" = some (some (.ref f10)))
    (l10 : K.lookup f10 = some ⟨oc10, od10, .func (PySem.W.fnOf "is_key" "is_key" (defArgs s_is_key) (defBody s_is_key) (defScope s_is_key) .none kV10 dc10 pm10 an10 cd10 ct10), sl10⟩)
    (c10 : PySem.W.codeIn K cd10 "is_key" = true)
    (k10 : PySem.W.keepIn K (.ref f10) = true)
    (a11 : PySem.W.nsIn K mainGlobals "is_value" = some (some (.ref f11)))
    (l11 : K.lookup f11 = some ⟨oc11, od11, .func (PySem.W.fnOf "is_value" "is_value" (defArgs s_is_value) (defBody s_is_value) (defScope s_is_value) .none kV11 dc11 pm11 an11 cd11 ct11), sl11⟩)
    (c11 : PySem.W.codeIn K cd11 "is_value" = true)
    (k11 : PySem.W.keepIn K (.ref f11) = true)
    (a12 : PySem.W.nsIn K mainGlobals "is_leaf_end" = some (some (.ref f12)))
    (l12 : K.lookup f12 = some ⟨oc12, od12, .func (PySem.W.fnOf "is_leaf_end" "is_leaf_end" (defArgs s_is_leaf_end) (defBody s_is_leaf_end) (defScope s_is_leaf_end) .none kV12 dc12 pm12 an12 cd12 ct12), sl12⟩)
    (c12 : PySem.W.codeIn K cd12 "is_leaf_end" = true)
    (k12 : PySem.W.keepIn K (.ref f12) = true)
    (a13 : PySem.W.nsIn K mainGlobals "is_stamp" = some (some (.ref f13)))
    (l13 : K.lookup f13 = some ⟨oc13, od13, .func (PySem.W.fnOf "is_stamp" "is_stamp" (defArgs s_is_stamp) (defBody s_is_stamp) (defScope s_is_stamp) .none kV13 dc13 pm13 an13 cd13 ct13), sl13⟩)
    (c13 : PySem.W.codeIn K cd13 "is_stamp" = true)
    (k13 : PySem.W.keepIn K (.ref f13) = true)
    (a14 : PySem.W.nsIn K mainGlobals "is_fork_end" = some (some (.ref f14)))
    (l14 : K.lookup f14 = some ⟨oc14, od14, .func (PySem.W.fnOf "is_fork_end" "is_fork_end" (defArgs s_is_fork_end) (defBody s_is_fork_end) (defScope s_is_fork_end) .none kV14 dc14 pm14 an14 cd14 ct14), sl14⟩)
    (c14 : PySem.W.codeIn K cd14 "is_fork_end" = true)
    (k14 : PySem.W.keepIn K (.ref f14) = true)
    (a15 : PySem.W.nsIn K mainGlobals "are_steps" = some (some (.ref f15)))
    (l15 : K.lookup f15 = some ⟨oc15, od15, .func (PySem.W.fnOf "are_steps" "are_steps" (defArgs s_are_steps) (defBody s_are_steps) (defScope s_are_steps) .none kV15 dc15 pm15 an15 cd15 ct15), sl15⟩)
    (c15 : PySem.W.codeIn K cd15 "are_steps" = true)
    (k15 : PySem.W.keepIn K (.ref f15) = true)
    (a16 : PySem.W.nsIn K mainGlobals "end_depth" = some (some (.ref f16)))
    (l16 : K.lookup f16 = some ⟨oc16, od16, .func (PySem.W.fnOf "end_depth" "end_depth" (defArgs s_end_depth) (defBody s_end_depth) (defScope s_end_depth) .none kV16 dc16 pm16 an16 cd16 ct16), sl16⟩)
    (c16 : PySem.W.codeIn K cd16 "end_depth" = true)
    (k16 : PySem.W.keepIn K (.ref f16) = true)
    (a17 : PySem.W.nsIn K mainGlobals "is_slip" = some (some (.ref f17)))
    (l17 : K.lookup f17 = some ⟨oc17, od17, .func (PySem.W.fnOf "is_slip" "is_slip" (defArgs s_is_slip) (defBody s_is_slip) (defScope s_is_slip) .none kV17 dc17 pm17 an17 cd17 ct17), sl17⟩)
    (c17 : PySem.W.codeIn K cd17 "is_slip" = true)
    (k17 : PySem.W.keepIn K (.ref f17) = true)
    (a18 : PySem.W.nsIn K mainGlobals "_law_deep" = some (some (.ref f18)))
    (l18 : K.lookup f18 = some ⟨oc18, od18, .func (PySem.W.fnOf "_law_deep" "_law_deep" (defArgs s__law_deep) (defBody s__law_deep) (defScope s__law_deep) .none kV18 dc18 pm18 an18 cd18 ct18), sl18⟩)
    (c18 : PySem.W.codeIn K cd18 "_law_deep" = true)
    (k18 : PySem.W.keepIn K (.ref f18) = true)
    (a19 : PySem.W.nsIn K mainGlobals "_law_bad_leaves" = some (some (.ref f19)))
    (l19 : K.lookup f19 = some ⟨oc19, od19, .func (PySem.W.fnOf "_law_bad_leaves" "_law_bad_leaves" (defArgs s__law_bad_leaves) (defBody s__law_bad_leaves) (defScope s__law_bad_leaves) .none kV19 dc19 pm19 an19 cd19 ct19), sl19⟩)
    (c19 : PySem.W.codeIn K cd19 "_law_bad_leaves" = true)
    (k19 : PySem.W.keepIn K (.ref f19) = true)
    (a20 : PySem.W.nsIn K mainGlobals "_law_bad_forks" = some (some (.ref f20)))
    (l20 : K.lookup f20 = some ⟨oc20, od20, .func (PySem.W.fnOf "_law_bad_forks" "_law_bad_forks" (defArgs s__law_bad_forks) (defBody s__law_bad_forks) (defScope s__law_bad_forks) .none kV20 dc20 pm20 an20 cd20 ct20), sl20⟩)
    (c20 : PySem.W.codeIn K cd20 "_law_bad_forks" = true)
    (k20 : PySem.W.keepIn K (.ref f20) = true)
    (a21 : PySem.W.nsIn K mainGlobals "_law_bad_steps" = some (some (.ref f21)))
    (l21 : K.lookup f21 = some ⟨oc21, od21, .func (PySem.W.fnOf "_law_bad_steps" "_law_bad_steps" (defArgs s__law_bad_steps) (defBody s__law_bad_steps) (defScope s__law_bad_steps) .none kV21 dc21 pm21 an21 cd21 ct21), sl21⟩)
    (c21 : PySem.W.codeIn K cd21 "_law_bad_steps" = true)
    (k21 : PySem.W.keepIn K (.ref f21) = true)
    (a22 : PySem.W.nsIn K mainGlobals "_law_bad" = some (some (.ref f22)))
    (l22 : K.lookup f22 = some ⟨oc22, od22, .func (PySem.W.fnOf "_law_bad" "_law_bad" (defArgs s__law_bad) (defBody s__law_bad) (defScope s__law_bad) .none kV22 dc22 pm22 an22 cd22 ct22), sl22⟩)
    (c22 : PySem.W.codeIn K cd22 "_law_bad" = true)
    (k22 : PySem.W.keepIn K (.ref f22) = true)
    (a23 : PySem.W.nsIn K mainGlobals "_law_good" = some (some (.ref f23)))
    (l23 : K.lookup f23 = some ⟨oc23, od23, .func (PySem.W.fnOf "_law_good" "_law_good" (defArgs s__law_good) (defBody s__law_good) (defScope s__law_good) .none kV23 dc23 pm23 an23 cd23 ct23), sl23⟩)
    (c23 : PySem.W.codeIn K cd23 "_law_good" = true)
    (k23 : PySem.W.keepIn K (.ref f23) = true)
    (a24 : PySem.W.nsIn K mainGlobals "law" = some (some (.ref f24)))
    (l24 : K.lookup f24 = some ⟨oc24, od24, .func (PySem.W.fnOf "law" "law" (defArgs s_law) (defBody s_law) (defScope s_law) .none kV24 dc24 pm24 an24 cd24 ct24), sl24⟩)
    (c24 : PySem.W.codeIn K cd24 "law" = true)
    (k24 : PySem.W.keepIn K (.ref f24) = true)
    (z_bool : PySem.W.nsIn K mainGlobals "bool" = some none)
    (z_int : PySem.W.nsIn K mainGlobals "int" = some none)
    (z_isinstance : PySem.W.nsIn K mainGlobals "isinstance" = some none)
    (z_len : PySem.W.nsIn K mainGlobals "len" = some none)
    (z_list : PySem.W.nsIn K mainGlobals "list" = some none)
    (z_range : PySem.W.nsIn K mainGlobals "range" = some none)
    (z_str : PySem.W.nsIn K mainGlobals "str" = some none)
    (z_tuple : PySem.W.nsIn K mainGlobals "tuple" = some none)
    (g_MOST_SIGNS : PySem.W.nsIn K mainGlobals "MOST_SIGNS" = some (some (.int 60 t0)))
    : ∃ fd : FuncData, (∀ (s : Shared) (v : Value), BindsTo s fd ⟨[v], []⟩ [("_law_script", v)]) ∧ ∀ base : Heap, FnOk P w K mg base (L2.CX P w) 5 fa fd ["_law_script"] (spL K) := by
  have e := hfa.symm.trans (PySem.W.mg_of X G a24)
  cases e
  have F0 := fun_mk (st := s__law_bits) l0 c0 k0
  have b0 := F0.binds (ps := ["_law_cell"]) fun _ _ _ _ _ _ us hl => match us, hl with | [_], _ => rfl
  have F1 := fun_mk (st := s__law_key) l1 c1 k1
  have b1 := F1.binds (ps := ["_law_bits_here", "_law_cell", "_law_others"]) fun _ _ _ _ _ _ us hl => match us, hl with | [_, _, _], _ => rfl
  have F2 := fun_mk (st := s__law_mark) l2 c2 k2
  have b2 := F2.binds (ps := ["_law_number"]) fun _ _ _ _ _ _ us hl => match us, hl with | [_], _ => rfl
  have F3 := fun_mk (st := s__law_steps) l3 c3 k3
  have b3 := F3.binds (ps := ["_law_cell", "_law_low", "_law_bits_here"]) fun _ _ _ _ _ _ us hl => match us, hl with | [_, _, _], _ => rfl
  have F4 := fun_mk (st := s__law_place) l4 c4 k4
  have b4 := F4.binds (ps := ["_law_steps_here", "_law_low"]) fun _ _ _ _ _ _ us hl => match us, hl with | [_, _], _ => rfl
  have F5 := fun_mk (st := s__law_text) l5 c5 k5
  have b5 := F5.binds (ps := ["_law_cell"]) fun _ _ _ _ _ _ us hl => match us, hl with | [_], _ => rfl
  have F6 := fun_mk (st := s__law_end) l6 c6 k6
  have b6 := F6.binds (ps := ["_law_cell", "_law_bits_here", "_law_key_here", "_law_low"]) fun _ _ _ _ _ _ us hl => match us, hl with | [_, _, _, _], _ => rfl
  have F7 := fun_mk (st := s__law_at) l7 c7 k7
  have b7 := F7.binds (ps := ["_law_script", "_law_k"]) fun _ _ _ _ _ _ us hl => match us, hl with | [_, _], _ => rfl
  have F8 := fun_mk (st := s_start) l8 c8 k8
  have b8 := F8.binds (ps := ["bits", "key", "depth"]) fun _ _ _ _ _ _ us hl => match us, hl with | [_, _, _], _ => rfl
  have F9 := fun_mk (st := s_is_whole) l9 c9 k9
  have b9 := F9.binds (ps := ["thing"]) fun _ _ _ _ _ _ us hl => match us, hl with | [_], _ => rfl
  have F10 := fun_mk (st := s_is_key) l10 c10 k10
  have b10 := F10.binds (ps := ["bits", "thing"]) fun _ _ _ _ _ _ us hl => match us, hl with | [_, _], _ => rfl
  have F11 := fun_mk (st := s_is_value) l11 c11 k11
  have b11 := F11.binds (ps := ["thing"]) fun _ _ _ _ _ _ us hl => match us, hl with | [_], _ => rfl
  have F12 := fun_mk (st := s_is_leaf_end) l12 c12 k12
  have b12 := F12.binds (ps := ["bits", "key", "depth", "thing"]) fun _ _ _ _ _ _ us hl => match us, hl with | [_, _, _, _], _ => rfl
  have F13 := fun_mk (st := s_is_stamp) l13 c13 k13
  have b13 := F13.binds (ps := ["thing"]) fun _ _ _ _ _ _ us hl => match us, hl with | [_], _ => rfl
  have F14 := fun_mk (st := s_is_fork_end) l14 c14 k14
  have b14 := F14.binds (ps := ["bits", "key", "depth", "thing"]) fun _ _ _ _ _ _ us hl => match us, hl with | [_, _, _, _], _ => rfl
  have F15 := fun_mk (st := s_are_steps) l15 c15 k15
  have b15 := F15.binds (ps := ["bits", "thing"]) fun _ _ _ _ _ _ us hl => match us, hl with | [_, _], _ => rfl
  have F16 := fun_mk (st := s_end_depth) l16 c16 k16
  have b16 := F16.binds (ps := ["steps"]) fun _ _ _ _ _ _ us hl => match us, hl with | [_], _ => rfl
  have F17 := fun_mk (st := s_is_slip) l17 c17 k17
  have b17 := F17.binds (ps := ["bits", "key", "thing"]) fun _ _ _ _ _ _ us hl => match us, hl with | [_, _, _], _ => rfl
  have F18 := fun_mk (st := s__law_deep) l18 c18 k18
  have b18 := F18.binds (ps := ["_law_thing"]) fun _ _ _ _ _ _ us hl => match us, hl with | [_], _ => rfl
  have F19 := fun_mk (st := s__law_bad_leaves) l19 c19 k19
  have b19 := F19.binds (ps := ["_law_bits_here", "_law_key_here", "_law_low", "_law_number"]) fun _ _ _ _ _ _ us hl => match us, hl with | [_, _, _, _], _ => rfl
  have F20 := fun_mk (st := s__law_bad_forks) l20 c20 k20
  have b20 := F20.binds (ps := ["_law_bits_here", "_law_key_here", "_law_low", "_law_number"]) fun _ _ _ _ _ _ us hl => match us, hl with | [_, _, _, _], _ => rfl
  have F21 := fun_mk (st := s__law_bad_steps) l21 c21 k21
  have b21 := F21.binds (ps := ["_law_cell", "_law_steps_here", "_law_bits_here"]) fun _ _ _ _ _ _ us hl => match us, hl with | [_, _, _], _ => rfl
  have F22 := fun_mk (st := s__law_bad) l22 c22 k22
  have b22 := F22.binds (ps := ["_law_cell", "_law_bits_here", "_law_key_here", "_law_steps_here", "_law_end_here", "_law_low"]) fun _ _ _ _ _ _ us hl => match us, hl with | [_, _, _, _, _, _], _ => rfl
  have F23 := fun_mk (st := s__law_good) l23 c23 k23
  have b23 := F23.binds (ps := ["_law_bits_here", "_law_key_here", "_law_steps_here", "_law_low", "_law_number"]) fun _ _ _ _ _ _ us hl => match us, hl with | [_, _, _, _, _], _ => rfl
  have F24 := fun_mk (st := s_law) l24 c24 k24
  have b24 := F24.binds (ps := ["_law_script"]) fun _ _ _ _ _ _ us hl => match us, hl with | [_], _ => rfl
  have T : Txt K mg { f__law_bits := f0, d__law_bits := _, f__law_key := f1, d__law_key := _, f__law_mark := f2, d__law_mark := _, f__law_steps := f3, d__law_steps := _, f__law_place := f4, d__law_place := _, f__law_text := f5, d__law_text := _, f__law_end := f6, d__law_end := _, f__law_at := f7, d__law_at := _, f_start := f8, d_start := _, f_is_whole := f9, d_is_whole := _, f_is_key := f10, d_is_key := _, f_is_value := f11, d_is_value := _, f_is_leaf_end := f12, d_is_leaf_end := _, f_is_stamp := f13, d_is_stamp := _, f_is_fork_end := f14, d_is_fork_end := _, f_are_steps := f15, d_are_steps := _, f_end_depth := f16, d_end_depth := _, f_is_slip := f17, d_is_slip := _, f__law_deep := f18, d__law_deep := _, f__law_bad_leaves := f19, d__law_bad_leaves := _, f__law_bad_forks := f20, d__law_bad_forks := _, f__law_bad_steps := f21, d__law_bad_steps := _, f__law_bad := f22, d__law_bad := _, f__law_good := f23, d__law_good := _, f_law := fa, d_law := _ } := { F__law_bits := F0, b__law_bits := b0, g__law_bits := PySem.W.mg_of X G a0, F__law_key := F1, b__law_key := b1, g__law_key := PySem.W.mg_of X G a1, F__law_mark := F2, b__law_mark := b2, g__law_mark := PySem.W.mg_of X G a2, F__law_steps := F3, b__law_steps := b3, g__law_steps := PySem.W.mg_of X G a3, F__law_place := F4, b__law_place := b4, g__law_place := PySem.W.mg_of X G a4, F__law_text := F5, b__law_text := b5, g__law_text := PySem.W.mg_of X G a5, F__law_end := F6, b__law_end := b6, g__law_end := PySem.W.mg_of X G a6, F__law_at := F7, b__law_at := b7, g__law_at := PySem.W.mg_of X G a7, F_start := F8, b_start := b8, g_start := PySem.W.mg_of X G a8, F_is_whole := F9, b_is_whole := b9, g_is_whole := PySem.W.mg_of X G a9, F_is_key := F10, b_is_key := b10, g_is_key := PySem.W.mg_of X G a10, F_is_value := F11, b_is_value := b11, g_is_value := PySem.W.mg_of X G a11, F_is_leaf_end := F12, b_is_leaf_end := b12, g_is_leaf_end := PySem.W.mg_of X G a12, F_is_stamp := F13, b_is_stamp := b13, g_is_stamp := PySem.W.mg_of X G a13, F_is_fork_end := F14, b_is_fork_end := b14, g_is_fork_end := PySem.W.mg_of X G a14, F_are_steps := F15, b_are_steps := b15, g_are_steps := PySem.W.mg_of X G a15, F_end_depth := F16, b_end_depth := b16, g_end_depth := PySem.W.mg_of X G a16, F_is_slip := F17, b_is_slip := b17, g_is_slip := PySem.W.mg_of X G a17, F__law_deep := F18, b__law_deep := b18, g__law_deep := PySem.W.mg_of X G a18, F__law_bad_leaves := F19, b__law_bad_leaves := b19, g__law_bad_leaves := PySem.W.mg_of X G a19, F__law_bad_forks := F20, b__law_bad_forks := b20, g__law_bad_forks := PySem.W.mg_of X G a20, F__law_bad_steps := F21, b__law_bad_steps := b21, g__law_bad_steps := PySem.W.mg_of X G a21, F__law_bad := F22, b__law_bad := b22, g__law_bad := PySem.W.mg_of X G a22, F__law_good := F23, b__law_good := b23, g__law_good := PySem.W.mg_of X G a23, F_law := F24, b_law := b24, g_law := PySem.W.mg_of X G a24, z_bool := PySem.W.mg_none_of X G z_bool, z_int := PySem.W.mg_none_of X G z_int, z_isinstance := PySem.W.mg_none_of X G z_isinstance, z_len := PySem.W.mg_none_of X G z_len, z_list := PySem.W.mg_none_of X G z_list, z_range := PySem.W.mg_none_of X G z_range, z_str := PySem.W.mg_none_of X G z_str, z_tuple := PySem.W.mg_none_of X G z_tuple, c_MOST_SIGNS := ⟨_, PySem.W.mg_of X G g_MOST_SIGNS⟩ }
  exact ⟨_, fun s v => .of_eq rfl, fun base => law_end rfl (ok_law T) law_true⟩
end Law
open PySem PySem.W PyProof.Rows
set_option maxRecDepth 100000 in
set_option maxHeartbeats 0 in
theorem PySem.Challenge.cw_rootstamp_k21_what_is_a_slip_holds : PySem.Challenge.rw_rootstamp_k21_what_is_a_slip.Holds := by
  w_on; o_law; k_head; (case hw => w_witness2)
  k_fill
  refine Eng.walk_eng (l := PySem.Challenge.rw_rootstamp_k21_what_is_a_slip) (k := 5) (x := "_law_script") rfl rfl ⟨rfl, by decide, by decide⟩ (fun w h Y => PySem.W.kIn_of Y) ?F
  case F =>
    intro w mg fa h KX G hmg
    refine' Law.all_mk KX G hmg ?a0 ?l0 ?c0 ?k0 ?a1 ?l1 ?c1 ?k1 ?a2 ?l2 ?c2 ?k2 ?a3 ?l3 ?c3 ?k3 ?a4 ?l4 ?c4 ?k4 ?a5 ?l5 ?c5 ?k5 ?a6 ?l6 ?c6 ?k6 ?a7 ?l7 ?c7 ?k7 ?a8 ?l8 ?c8 ?k8 ?a9 ?l9 ?c9 ?k9 ?a10 ?l10 ?c10 ?k10 ?a11 ?l11 ?c11 ?k11 ?a12 ?l12 ?c12 ?k12 ?a13 ?l13 ?c13 ?k13 ?a14 ?l14 ?c14 ?k14 ?a15 ?l15 ?c15 ?k15 ?a16 ?l16 ?c16 ?k16 ?a17 ?l17 ?c17 ?k17 ?a18 ?l18 ?c18 ?k18 ?a19 ?l19 ?c19 ?k19 ?a20 ?l20 ?c20 ?k20 ?a21 ?l21 ?c21 ?k21 ?a22 ?l22 ?c22 ?k22 ?a23 ?l23 ?c23 ?k23 ?a24 ?l24 ?c24 ?k24 ?z_bool ?z_int ?z_isinstance ?z_len ?z_list ?z_range ?z_str ?z_tuple ?g_MOST_SIGNS
    (case a0 => k_is); (case l0 => k_is); (case c0 => k_is); (case k0 => k_is); (case a1 => k_is); (case l1 => k_is); (case c1 => k_is); (case k1 => k_is); (case a2 => k_is); (case l2 => k_is); (case c2 => k_is); (case k2 => k_is); (case a3 => k_is); (case l3 => k_is); (case c3 => k_is); (case k3 => k_is); (case a4 => k_is); (case l4 => k_is); (case c4 => k_is); (case k4 => k_is); (case a5 => k_is); (case l5 => k_is); (case c5 => k_is); (case k5 => k_is); (case a6 => k_is); (case l6 => k_is); (case c6 => k_is); (case k6 => k_is); (case a7 => k_is); (case l7 => k_is); (case c7 => k_is); (case k7 => k_is); (case a8 => k_is); (case l8 => k_is); (case c8 => k_is); (case k8 => k_is); (case a9 => k_is); (case l9 => k_is); (case c9 => k_is); (case k9 => k_is); (case a10 => k_is); (case l10 => k_is); (case c10 => k_is); (case k10 => k_is); (case a11 => k_is); (case l11 => k_is); (case c11 => k_is); (case k11 => k_is); (case a12 => k_is); (case l12 => k_is); (case c12 => k_is); (case k12 => k_is); (case a13 => k_is); (case l13 => k_is); (case c13 => k_is); (case k13 => k_is); (case a14 => k_is); (case l14 => k_is); (case c14 => k_is); (case k14 => k_is); (case a15 => k_is); (case l15 => k_is); (case c15 => k_is); (case k15 => k_is); (case a16 => k_is); (case l16 => k_is); (case c16 => k_is); (case k16 => k_is); (case a17 => k_is); (case l17 => k_is); (case c17 => k_is); (case k17 => k_is); (case a18 => k_is); (case l18 => k_is); (case c18 => k_is); (case k18 => k_is); (case a19 => k_is); (case l19 => k_is); (case c19 => k_is); (case k19 => k_is); (case a20 => k_is); (case l20 => k_is); (case c20 => k_is); (case k20 => k_is); (case a21 => k_is); (case l21 => k_is); (case c21 => k_is); (case k21 => k_is); (case a22 => k_is); (case l22 => k_is); (case c22 => k_is); (case k22 => k_is); (case a23 => k_is); (case l23 => k_is); (case c23 => k_is); (case k23 => k_is); (case a24 => k_is); (case l24 => k_is); (case c24 => k_is); (case k24 => k_is); (case z_bool => k_is); (case z_int => k_is); (case z_isinstance => k_is); (case z_len => k_is); (case z_list => k_is); (case z_range => k_is); (case z_str => k_is); (case z_tuple => k_is); (case g_MOST_SIGNS => k_is)
#print axioms PySem.Challenge.cw_rootstamp_k21_what_is_a_slip_holds

