import PyProof.Rows.All
import Wide.All
import OpenK.AllK
import Wide.FinOn
import HandS.ForMost
import HandS.ForExc
import HandS.IsInst
import HandS.Wide
import HandS.WideBits
import HandS.TryMany
import HandS.TupAny
import HandS.TupMul
import HandS.Flow
import HandS.TupLe
import HandS.Conv
import HandS.Steps
import HandS.Nested
import HandS.TupLen
import HandS.SetKeys
import HandS.Deep
import HandS.Small
import HandS.TryElse
import HandS.ExcOwn
import HandS.ExcIs
import HandS.Zip
import HandS.Rev
import HandS.EndTab
import HandS.EndOwn
import PyProof.DictMoreH
import PyProof.StrBlock2
import PyProof.Rows.StrMul
import HandS.Text
import HandS.StrSplit
import PyProof.DictUpdate
import PyProof.FactsAll.dict_3
import PyProof.FactsAll.dict_4
import PyProof.StrLawsIn
import PyProof.StrLawsChain
import HandS.Comp
import KE.KRevIter
import HandS.RevTup
import HandS.ExcInit
import HandS.ExcField
import HandS.ClsMeth
import KE.KExcIs
import PyProof.P3Eq
import PySem.Challenge.RW_rootstamp_k47_refusals_of_growths
set_option Elab.async false
set_option linter.all false
set_option maxRecDepth 100000
set_option maxHeartbeats 4000000

/-! The engine, part 0: data, the store, how they lie in the abstract heap. -/
namespace Eng
open PySem PySem.Spec PyProof.Rows L2

/-- a value: scalars and tuples as data, all else by its place in the store or its global name -/
inductive D where
  | non | bl (b : Bool) | int (i : Int) | str (x : Str) | tup (xs : List D) | ref (n : Nat) | ty (n : String) | gl (x : Str)

/-- the words of a nested def or a lambda, and the names that it captures -/
structure NW where
  name : Str
  qual : Str
  params : Arguments
  body : FuncBody
  scope : Scope
  fr : List Str
/-- what stands in the store -/
inductive Ob where
  | lst (xs : List D)
  /-- a list that is never written -/
  | rdl (xs : List D)
  | dk (kvs : List (Key × D))
  | dt (kvs : List (List Key × D))
  | ins (C : Str) (fs : List (Str × D))
  /-- an exception that was caught: its class, its own fields -/
  | exn (C : Str) (fs : List (Str × D))
  /-- a nested def's object: its number, its words, where its cells stand -/
  | fn (i : Nat) (W : NW) (ns : List Nat)
  /-- a captured cell and what it holds; one that a running def has open -/
  | cel (d : D)
  | opn

/-- its function object -/
abbrev NW.fd (W : NW) (cl : List (Str × Addr)) (c : Addr) (doc pm ctv : Value) : FuncData :=
  { name := W.name, qualname := W.qual, params := W.params, body := W.body, scope := W.scope, globals := mainGlobals, closure := cl, defaults := .none, kwdefaults := .none, doc := doc, pyModule := pm, annotations := none, code := .ref c, closureTuple := ctv, builtins := builtinsNs }
def FnQ (f : Addr) (W : NW) (cl : List (Str × Addr)) (c : Addr) : HO := .ext fun h => ∃ (od : Option Addr) (sl : Array (Option Value)) (doc pm ctv : Value), h.get? f = some (⟨.type "function", od, .func (W.fd cl c doc pm ctv), sl⟩ : Obj)
/-- the tables of code objects of the defs that make functions -/
class TabCfg where
  tabs : List NdefX.NTab
/-- where nothing is told: none -/
instance (priority := low) noTabs : TabCfg := ⟨[]⟩
abbrev Sto := List Ob
abbrev Env' := List (Option D)
structure Exn where
  cls : Str
  fs : List (Str × D)
inductive R (α : Type) where
  | ok (a : α) (S : Sto)
  | ex (x : Exn) (S : Sto)
  | stuck
def R.bind {α β : Type} : R α → (α → Sto → R β) → R β
  | .ok a S, f => f a S
  | .ex x S, _ => .ex x S
  | .stuck, _ => .stuck
abbrev Mx := Env' → Sto → R D

mutual
inductive Vd (K : PySem.W.Frag) (mg : Str → Option Value) (β : List Addr) (H : Hp) : V → D → Prop
  | non : Vd K mg β H .non .non
  | bl (b : Bool) : Vd K mg β H (.bl b) (.bl b)
  | int (i : Int) : Vd K mg β H (.int i) (.int i)
  | str (x : Str) : Vd K mg β H (.str x) (.str x)
  | ty (n : String) : Vd K mg β H (.ty n) (.ty n)
  | tup {a : Addr} {xs : List V} {ds : List D} : H a = some (.tup xs) → Vds K mg β H xs ds → Vd K mg β H (.ref a) (.tup ds)
  | ref {a : Addr} {n : Nat} : β[n]? = some a → Vd K mg β H (.ref a) (.ref n)
  | gl {a : Addr} {x : Str} : mg x = some (.ref a) → Vd K mg β H (.ref a) (.gl x)
inductive Vds (K : PySem.W.Frag) (mg : Str → Option Value) (β : List Addr) (H : Hp) : List V → List D → Prop
  | nil : Vds K mg β H [] []
  | cons {v : V} {vs : List V} {d : D} {ds : List D} : Vd K mg β H v d → Vds K mg β H vs ds → Vds K mg β H (v :: vs) (d :: ds)
end
section
variable (K : PySem.W.Frag) (mg : Str → Option Value) (β : List Addr) (H : Hp)
/-- pairs with the same first part -/
def Pd {κ : Type} : List (κ × V) → List (κ × D) → Prop := Paired fun p q => p.1 = q.1 ∧ Vd K mg β H p.2 q.2
/-- an exception's own fields, in its own dict -/
def Fx (od : Option Addr) (fs : List (Str × D)) : Prop := (fs = [] ∧ od = none) ∨ ∃ d xs, od = some d ∧ fs ≠ [] ∧ H d = some (.xd xs) ∧ Pd K mg β H xs fs
/-- at a: an exception of the class cls, its dict od -/
def exoH (a : Addr) (cls : Value) (od : Option Addr) : HO := .ext fun h => ∃ (oe : Obj) (vs : Array Value), h.get? a = some oe ∧ Zc cls od oe ∧ oe.data = .fields vs
def CellO (c : Addr) (v : V) : HO := .ext fun h => ∃ u, RelV v u ∧ h.IsCell c (some u)
/-- how a function's cells lie in the store -/
structure CapB (β : List Addr) (cl : List (Str × Addr)) (fr : List Str) (ns : List Nat) : Prop where
  len : ns.length = fr.length
  has : ∀ (j : Nat) (y : Str), fr[j]? = some y → ∃ n a, ns[j]? = some n ∧ β[n]? = some a ∧ cl.lookup y = some a
  sub : ∀ y a, cl.lookup y = some a → y ∈ fr
  inj : ∀ x y a, cl.lookup x = some a → cl.lookup y = some a → x = y
def ObR (a : Addr) : Ob → Prop
  | .fn _ W ns => ∃ (cl : List (Str × Addr)) (c : Addr), H a = some (FnQ a W cl c) ∧ H c = some (LamX.CodeO c W.qual) ∧ CapB β cl W.fr ns
  | .cel d => ∃ v, H a = some (CellO a v) ∧ Vd K mg β H v d
  | .opn => True
  | .exn C fs => ∃ Ca od, mg C = some (.ref Ca) ∧ H a = some (exoH a (.ref Ca) od) ∧ Fx K mg β H od fs
  | .lst ds => ∃ xs, H a = some (.lst xs) ∧ Vds K mg β H xs ds
  | .rdl ds => ∃ xs, (((∃ o, H a = some (.frz o (.lst xs))) ∨ ∃ (o : Obj) (its : Array Value) (n : Nat), K.lookup a = some o ∧ o.cls = .type "list" ∧ o.dict = none ∧ o.data = .seq its n ∧ its.size ≤ sizeLine ∧ Vals xs its.toList)) ∧ Vds K mg β H xs ds
  | .dk kvs => ∃ xs, H a = some (.dK xs) ∧ Pd K mg β H xs kvs
  | .dt kvs => ∃ xs, H a = some (.dT xs) ∧ Pd K mg β H xs kvs
  | .ins C fs => ∃ Ca dx xs, mg C = some (.ref Ca) ∧ H a = some (.ins Ca dx xs) ∧ Pd K mg β H xs fs ∧ Cls K Ca ∧ ∀ p ∈ fs, NoAttr K Ca p.1
def Ob.wr : Ob → Bool
  | .rdl _ => false
  | .opn => false
  | _ => true
/-- what can be written -/
def Ob.mu : Ob → Bool
  | .lst _ => true
  | .dk _ => true
  | .dt _ => true
  | .ins _ _ => true
  | _ => false
theorem Ob.wr_of {o : Ob} (h : o.mu = true) : o.wr = true := by cases o <;> first | rfl | cases h
variable [TabCfg]
structure Rl (S : Sto) : Prop where
  len : β.length = S.length
  at' : ∀ (n : Nat) (a : Addr) (o : Ob), β[n]? = some a → S[n]? = some o → ObR K mg β H a o
  uniq : ∀ (n m : Nat) (a : Addr) (o u : Ob), β[n]? = some a → β[m]? = some a → S[n]? = some o → S[m]? = some u → o.wr = true → u.wr = true → n = m
  tabs : ∀ p ∈ TabCfg.tabs, NdefX.TabN H p.1 p.2
structure En (ρ : Env') (σ : L2.St) : Prop where
  len : ρ.length = σ.length
  at' : ∀ (i : Nat) (d : D), ρ[i]? = some (some d) → ∃ v, σ[i]? = some (some v) ∧ Vd K mg β H v d
/-- what is behind goes on from what was ahead -/
structure Xt (K : PySem.W.Frag) (β : List Addr) (H : Hp) (β' : List Addr) (H' : Hp) : Prop where
  pre : ∃ l, β' = β ++ l
  tup : ∀ a xs, H a = some (HO.tup xs) → H' a = some (HO.tup xs)
  xd : ∀ a xs, H a = some (HO.xd xs) → H' a = some (HO.xd xs)
  cod : ∀ a q, H a = some (LamX.CodeO a q) → H' a = some (LamX.CodeO a q)
  fnq : ∀ a W cl c, H a = some (FnQ a W cl c) → H' a = some (FnQ a W cl c)
end
variable [TabCfg]

section
variable {K : PySem.W.Frag} {mg : Str → Option Value} {β β' β'' : List Addr} {H H' H'' : Hp} {S S' : Sto} {ρ : Env'} {σ : L2.St}
theorem Xt.refl : Xt K β H β H := ⟨⟨[], by simp⟩, fun _ _ h => h, fun _ _ h => h, fun _ _ h => h, fun _ _ _ _ h => h⟩
theorem Xt.trans (a : Xt K β H β' H') (b : Xt K β' H' β'' H'') : Xt K β H β'' H'' := by
  obtain ⟨⟨l, e⟩, t, u, z, y⟩ := a
  obtain ⟨⟨l', e'⟩, t', u', z', y'⟩ := b
  exact ⟨⟨l ++ l', by rw [e', e, List.append_assoc]⟩, fun a xs h => t' a xs (t a xs h), fun a xs h => u' a xs (u a xs h), fun a xs h => z' a xs (z a xs h), fun a W cl c h => y' a W cl c (y a W cl c h)⟩
theorem Xt.at' (x : Xt K β H β' H') {n : Nat} {a : Addr} (h : β[n]? = some a) : β'[n]? = some a := by
  obtain ⟨⟨l, e⟩, _, _, _, _⟩ := x
  rw [e, List.getElem?_append_left (List.getElem?_eq_some_iff.mp h).1]
  exact h
mutual
theorem Vd.ext (x : Xt K β H β' H') : ∀ {v : V} {d : D}, Vd K mg β H v d → Vd K mg β' H' v d
  | _, _, .non => .non
  | _, _, .bl b => .bl b
  | _, _, .int i => .int i
  | _, _, .str z => .str z
  | _, _, .ty n => .ty n
  | _, _, .tup h t => .tup (x.tup _ _ h) (Vds.ext x t)
  | _, _, .ref h => .ref (x.at' h)
  | _, _, .gl h => .gl h
theorem Vds.ext (x : Xt K β H β' H') : ∀ {vs : List V} {ds : List D}, Vds K mg β H vs ds → Vds K mg β' H' vs ds
  | _, _, .nil => .nil
  | _, _, .cons h t => .cons (Vd.ext x h) (Vds.ext x t)
end
theorem Paired.imp {α γ : Type} {F G : α → γ → Prop} : ∀ {l : List α} {m : List γ}, Paired F l m → (∀ a b, F a b → G a b) → Paired G l m
  | _, _, .nil, _ => .nil
  | _, _, .cons r t, f => .cons (f _ _ r) (Paired.imp t f)
theorem Pd.ext {κ : Type} (x : Xt K β H β' H') {xs : List (κ × V)} {ds : List (κ × D)} (h : Pd K mg β H xs ds) : Pd K mg β' H' xs ds := Paired.imp h fun _ _ r => ⟨r.1, r.2.ext x⟩
theorem Fx.ext {od : Option Addr} {fs : List (Str × D)} (x : Xt K β H β' H') (h : Fx K mg β H od fs) : Fx K mg β' H' od fs := by
  rcases h with h | ⟨d, xs, h1, h0, h2, h3⟩
  · exact .inl h
  · exact .inr ⟨d, xs, h1, h0, x.xd _ _ h2, h3.ext x⟩
theorem En.ext (x : Xt K β H β' H') (e : En K mg β H ρ σ) : En K mg β' H' ρ σ :=
  ⟨e.len, fun i d h => let ⟨v, h1, h2⟩ := e.at' i d h; ⟨v, h1, h2.ext x⟩⟩
theorem Vds.length : ∀ {vs : List V} {ds : List D}, Vds K mg β H vs ds → vs.length = ds.length
  | _, _, .nil => rfl
  | _, _, .cons _ t => congrArg (· + 1) (Vds.length t)
theorem Vds.get : ∀ {vs : List V} {ds : List D} {i : Nat} {d : D}, Vds K mg β H vs ds → ds[i]? = some d → ∃ v, vs[i]? = some v ∧ Vd K mg β H v d
  | _, _, _, _, .nil, h => by simp at h
  | _, _, 0, _, .cons h _, e => by simp at e; subst e; exact ⟨_, rfl, h⟩
  | _, _, i + 1, _, .cons _ t, e => by
    obtain ⟨v, h1, h2⟩ := Vds.get (i := i) t (by simpa using e)
    exact ⟨v, by simpa using h1, h2⟩
theorem Vds.getV : ∀ {vs : List V} {ds : List D} {i : Nat} {v : V}, Vds K mg β H vs ds → vs[i]? = some v → ∃ d, ds[i]? = some d ∧ Vd K mg β H v d
  | _, _, _, _, .nil, h => by simp at h
  | _, _, 0, _, .cons h _, e => by simp at e; subst e; exact ⟨_, rfl, h⟩
  | _, _, i + 1, _, .cons _ t, e => by
    obtain ⟨v, h1, h2⟩ := Vds.getV (i := i) t (by simpa using e)
    exact ⟨v, by simpa using h1, h2⟩
theorem Vds.append : ∀ {vs ws : List V} {ds es : List D}, Vds K mg β H vs ds → Vds K mg β H ws es → Vds K mg β H (vs ++ ws) (ds ++ es)
  | _, _, _, _, .nil, h => h
  | _, _, _, _, .cons h t, q => .cons h (Vds.append t q)
theorem Vds.take : ∀ {vs : List V} {ds : List D} (n : Nat), Vds K mg β H vs ds → Vds K mg β H (vs.take n) (ds.take n)
  | _, _, 0, _ => .nil
  | _, _, _ + 1, .nil => .nil
  | _, _, n + 1, .cons h t => .cons h (Vds.take n t)
theorem Vds.drop : ∀ {vs : List V} {ds : List D} (n : Nat), Vds K mg β H vs ds → Vds K mg β H (vs.drop n) (ds.drop n)
  | _, _, 0, h => h
  | _, _, _ + 1, .nil => .nil
  | _, _, n + 1, .cons _ t => Vds.drop n t
theorem Vds.set : ∀ {vs : List V} {ds : List D} {v : V} {d : D} (n : Nat), Vds K mg β H vs ds → Vd K mg β H v d → Vds K mg β H (vs.set n v) (ds.set n d)
  | _, _, _, _, _, .nil, _ => .nil
  | _, _, _, _, 0, .cons _ t, h => .cons h t
  | _, _, _, _, n + 1, .cons q t, h => .cons q (Vds.set n t h)
theorem Vds.reverse : ∀ {vs : List V} {ds : List D}, Vds K mg β H vs ds → Vds K mg β H vs.reverse ds.reverse
  | _, _, .nil => .nil
  | _, _, .cons h t => by
    rw [List.reverse_cons, List.reverse_cons]
    exact Vds.append (Vds.reverse t) (.cons h .nil)

/-! ### changes of the heap -/
theorem xt_upd {p : Addr} {o : HO} (hp : ∀ ys, H p ≠ some (.tup ys)) (hq : ∀ ys, H p ≠ some (.xd ys)) (hz : ∀ φ, H p ≠ some (.ext φ)) : Xt K β H β (upd H p o) := ⟨⟨[], by simp⟩, fun a xs h => by
  rw [upd_ne (fun e => hp xs (by rw [← e]; exact h))]; exact h, fun a xs h => by
  rw [upd_ne (fun e => hq xs (by rw [← e]; exact h))]; exact h, fun a xs h => by
  rw [upd_ne (fun e => hz _ (by rw [← e]; exact h))]; exact h, fun a W cl c h => by
  rw [upd_ne (fun e => hz _ (by rw [← e]; exact h))]; exact h⟩
theorem xt_new {p : Addr} {o : HO} (hp : H p = none) : Xt K β H (β ++ [p]) (upd H p o) :=
  ⟨⟨[p], rfl⟩, fun a xs h => by rw [upd_ne (ne_of_none h hp)]; exact h, fun a xs h => by rw [upd_ne (ne_of_none h hp)]; exact h, fun a xs h => by rw [upd_ne (ne_of_none h hp)]; exact h, fun a W cl c h => by rw [upd_ne (ne_of_none h hp)]; exact h⟩
theorem xt_new' {p : Addr} {o : HO} (hp : H p = none) : Xt K β H β (upd H p o) :=
  ⟨⟨[], by simp⟩, fun a xs h => by rw [upd_ne (ne_of_none h hp)]; exact h, fun a xs h => by rw [upd_ne (ne_of_none h hp)]; exact h, fun a xs h => by rw [upd_ne (ne_of_none h hp)]; exact h, fun a W cl c h => by rw [upd_ne (ne_of_none h hp)]; exact h⟩
theorem CapB.ext {β β' : List Addr} {cl : List (Str × Addr)} {fr : List Str} {ns : List Nat} (c : CapB β cl fr ns) (x : Xt K β H β' H') : CapB β' cl fr ns :=
  ⟨c.len, fun j y h => let ⟨n, a, h1, h2, h3⟩ := c.has j y h; ⟨n, a, h1, x.at' h2, h3⟩, c.sub, c.inj⟩

/-- an object keeps its reading where its own cell is untouched -/
theorem ObR.ext {a : Addr} {o : Ob} (x : Xt K β H β' H') (h : ObR K mg β H a o) (ha : o.wr = true → H' a = H a) (hr : ∀ u v, H a = some (.frz u v) → H' a = some (.frz u v)) : ObR K mg β' H' a o := by
  cases o with
  | lst ds => obtain ⟨xs, h1, h2⟩ := h; exact ⟨xs, (ha rfl).trans h1, h2.ext x⟩
  | rdl ds =>
    obtain ⟨xs, h1, h2⟩ := h
    refine ⟨xs, ?_, h2.ext x⟩
    rcases h1 with ⟨u, h1⟩ | h1
    · exact .inl ⟨u, hr _ _ h1⟩
    · exact .inr h1
  | dk ds => obtain ⟨xs, h1, h2⟩ := h; exact ⟨xs, (ha rfl).trans h1, h2.ext x⟩
  | dt ds => obtain ⟨xs, h1, h2⟩ := h; exact ⟨xs, (ha rfl).trans h1, h2.ext x⟩
  | ins C fs => obtain ⟨Ca, dx, xs, h0, h1, h2, h3⟩ := h; exact ⟨Ca, dx, xs, h0, (ha rfl).trans h1, h2.ext x, h3⟩
  | fn i W ns => obtain ⟨cl, c, h1, h2, h3⟩ := h; exact ⟨cl, c, (ha rfl).trans h1, x.cod _ _ h2, h3.ext x⟩
  | cel d => obtain ⟨v, h1, h2⟩ := h; exact ⟨v, (ha rfl).trans h1, h2.ext x⟩
  | opn => exact True.intro
  | exn C fs => obtain ⟨Ca, od, h0, h1, h2⟩ := h; exact ⟨Ca, od, h0, (ha rfl).trans h1, h2.ext x⟩
/-- a writable object's cell -/
theorem ObR.tracked {a : Addr} {o : Ob} (h : ObR K mg β H a o) (hw : o.wr = true) : ∃ u, H a = some u ∧ ((∀ ys, u ≠ .tup ys) ∧ ∀ ys, u ≠ .xd ys) ∧ ∀ y z, u ≠ .frz y z := by
  cases o with
  | lst ds => obtain ⟨xs, h1, _⟩ := h; exact ⟨_, h1, ⟨(fun _ e => nomatch e), (fun _ e => nomatch e)⟩, (fun _ _ e => nomatch e)⟩
  | rdl ds => cases hw
  | dk ds => obtain ⟨xs, h1, _⟩ := h; exact ⟨_, h1, ⟨(fun _ e => nomatch e), (fun _ e => nomatch e)⟩, (fun _ _ e => nomatch e)⟩
  | dt ds => obtain ⟨xs, h1, _⟩ := h; exact ⟨_, h1, ⟨(fun _ e => nomatch e), (fun _ e => nomatch e)⟩, (fun _ _ e => nomatch e)⟩
  | exn C fs =>
    obtain ⟨Ca, od, _, h1, _⟩ := h
    exact ⟨_, h1, ⟨(fun _ e => by unfold exoH at e; cases e), (fun _ e => by unfold exoH at e; cases e)⟩, (fun _ _ e => by unfold exoH at e; cases e)⟩
  | ins C fs => obtain ⟨Ca, dx, xs, _, h1, _⟩ := h; exact ⟨_, h1, ⟨(fun _ e => nomatch e), (fun _ e => nomatch e)⟩, (fun _ _ e => nomatch e)⟩
  | fn i W ns => obtain ⟨cl, c, h1, _⟩ := h; exact ⟨_, h1, ⟨(fun _ e => by unfold FnQ at e; cases e), (fun _ e => by unfold FnQ at e; cases e)⟩, (fun _ _ e => by unfold FnQ at e; cases e)⟩
  | cel d => obtain ⟨v, h1, _⟩ := h; exact ⟨_, h1, ⟨(fun _ e => by unfold CellO at e; cases e), (fun _ e => by unfold CellO at e; cases e)⟩, (fun _ _ e => by unfold CellO at e; cases e)⟩
  | opn => cases hw
theorem ObR.notbl {a : Addr} {o : Ob} (h : ObR K mg β H a o) (hm : o.mu = true) : ∀ ps, H a ≠ some (.tbl ps) := by
  intro φ e
  cases o with
  | lst ds => obtain ⟨xs, h1, _⟩ := h; rw [h1] at e; cases e
  | dk ds => obtain ⟨xs, h1, _⟩ := h; rw [h1] at e; cases e
  | dt ds => obtain ⟨xs, h1, _⟩ := h; rw [h1] at e; cases e
  | ins C fs => obtain ⟨Ca, dx, xs, _, h1, _⟩ := h; rw [h1] at e; cases e
  | _ => cases hm
/-- one that can be written is no thing of one's own -/
theorem ObR.noext {a : Addr} {o : Ob} (h : ObR K mg β H a o) (hm : o.mu = true) : ∀ φ, H a ≠ some (.ext φ) := by
  intro φ e
  cases o with
  | lst ds => obtain ⟨xs, h1, _⟩ := h; rw [h1] at e; cases e
  | dk ds => obtain ⟨xs, h1, _⟩ := h; rw [h1] at e; cases e
  | dt ds => obtain ⟨xs, h1, _⟩ := h; rw [h1] at e; cases e
  | ins C fs => obtain ⟨Ca, dx, xs, _, h1, _⟩ := h; rw [h1] at e; cases e
  | _ => cases hm
/-- the tables stay where their objects stay -/
theorem tabN_stay {p : NdefX.NTab} (t : NdefX.TabN H p.1 p.2) (x : Xt K β H β' H') (h : ∀ ps, H p.1 = some (.tbl ps) → H' p.1 = some (.tbl ps)) : NdefX.TabN H' p.1 p.2 := by
  obtain ⟨ps, h1, h2, h3⟩ := t
  exact ⟨ps, h ps h1, h2, fun pos cv hc => let ⟨c, e1, e2⟩ := h3 pos cv hc; ⟨c, e1, x.cod _ _ e2⟩⟩
/-- only things that the store doesn't speak of have changed -/
theorem Rl.same (r : Rl K mg β H S) (x : Xt K β H β H') (k : ∀ a u, H a = some u → H' a = some u) : Rl K mg β H' S :=
  ⟨r.len, fun n a o h1 h2 => (r.at' n a o h1 h2).ext x (fun hw => by
    obtain ⟨u, e, _⟩ := (r.at' n a o h1 h2).tracked hw
    rw [e]; exact k a u e) (fun u v e => k a _ e), r.uniq, fun p hp => tabN_stay (r.tabs p hp) x fun ps e => k _ _ e⟩
theorem keep_new {p : Addr} {o : HO} (hp : H p = none) : ∀ a u, H a = some u → upd H p o a = some u := fun a u e => by
  rw [upd_ne (ne_of_none e hp)]; exact e
/-- a new tuple -/
theorem Rl.tup (r : Rl K mg β H S) {p : Addr} {o : HO} (hp : H p = none) : Rl K mg β (upd H p o) S := r.same (xt_new' hp) (keep_new hp)
/-- a new object -/
theorem Rl.new (r : Rl K mg β H S) {p : Addr} {o : HO} {b : Ob} (hp : H p = none) (hb : ObR K mg (β ++ [p]) (upd H p o) p b) : Rl K mg (β ++ [p]) (upd H p o) (S ++ [b]) := by
  have x : Xt K β H (β ++ [p]) (upd H p o) := xt_new hp
  refine ⟨by simp [r.len], fun n a u h1 h2 => ?_, fun n m a u v h1 h2 h3 h4 w1 w2 => ?_, fun q hq => tabN_stay (r.tabs q hq) x fun ps e => keep_new hp _ _ e⟩
  · by_cases hn : n < β.length
    · rw [List.getElem?_append_left hn] at h1
      rw [List.getElem?_append_left (by rw [← r.len]; exact hn)] at h2
      refine (r.at' n a u h1 h2).ext x (fun hw => ?_) (fun y z e => keep_new hp a _ e)
      obtain ⟨y, e, _⟩ := (r.at' n a u h1 h2).tracked hw
      rw [e]; exact keep_new hp a _ e
    · have hl := (List.getElem?_eq_some_iff.mp h1).1
      rw [List.length_append, List.length_singleton] at hl
      have e : n = β.length := by omega
      subst e
      rw [List.getElem?_append_right (Nat.le_refl _), Nat.sub_self] at h1
      rw [r.len, List.getElem?_append_right (Nat.le_refl _), Nat.sub_self] at h2
      have e1 : p = a := Option.some.inj h1
      have e2 : b = u := Option.some.inj h2
      rw [← e1, ← e2]; exact hb
  · have key : ∀ k c (w : Ob), (β ++ [p])[k]? = some c → (S ++ [b])[k]? = some w → w.wr = true → (k < β.length ∧ β[k]? = some c ∧ S[k]? = some w ∧ c ≠ p) ∨ (k = β.length ∧ c = p) := by
      intro k c w e1 e2 e3
      by_cases hk : k < β.length
      · rw [List.getElem?_append_left hk] at e1
        rw [List.getElem?_append_left (by rw [← r.len]; exact hk)] at e2
        obtain ⟨y, e, _⟩ := (r.at' k c w e1 e2).tracked e3
        exact .inl ⟨hk, e1, e2, ne_of_none e hp⟩
      · have hl := (List.getElem?_eq_some_iff.mp e1).1
        rw [List.length_append, List.length_singleton] at hl
        have e : k = β.length := by omega
        subst e
        rw [List.getElem?_append_right (Nat.le_refl _), Nat.sub_self] at e1
        exact .inr ⟨rfl, (Option.some.inj e1).symm⟩
    rcases key n a u h1 h3 w1 with ⟨_, a1, a2, a3⟩ | ⟨a1, a2⟩ <;> rcases key m a v h2 h4 w2 with ⟨_, b1, b2, b3⟩ | ⟨b1, b2⟩
    · exact r.uniq n m a u v a1 b1 a2 b2 w1 w2
    · exact absurd b2 a3
    · exact absurd a2 b3
    · rw [a1, b1]
/-- an object of the store is written -/
theorem Rl.write (r : Rl K mg β H S) {n : Nat} {p : Addr} {o : HO} {b b' : Ob} (h1 : β[n]? = some p) (h2 : S[n]? = some b) (hm0 : b.mu = true) (hw' : b'.wr = true) (hb : Xt K β H β (upd H p o) → ObR K mg β (upd H p o) p b') : Rl K mg β (upd H p o) (S.set n b') ∧ Xt K β H β (upd H p o) := by
  have hw : b.wr = true := Ob.wr_of hm0
  obtain ⟨y, e, t1, t2⟩ := (r.at' n p b h1 h2).tracked hw
  have x : Xt K β H β (upd H p o) := xt_upd (fun ys z => by rw [e] at z; exact t1.1 _ (Option.some.inj z)) (fun ys z => by rw [e] at z; exact t1.2 _ (Option.some.inj z)) ((r.at' n p b h1 h2).noext hm0)
  have key : ∀ m (w : Ob), (S.set n b')[m]? = some w → w.wr = true → ∃ w' : Ob, S[m]? = some w' ∧ w'.wr = true := fun m w q qw => by
    by_cases hm : n = m
    · subst hm; exact ⟨b, h2, hw⟩
    · rw [List.getElem?_set_ne hm] at q; exact ⟨w, q, qw⟩
  refine ⟨⟨by rw [List.length_set]; exact r.len, fun m a u q1 q2 => ?_, fun m k a u v q1 q2 q3 q4 w1 w2 => ?_, fun q hq => tabN_stay (r.tabs q hq) x fun ps e' => by
    rw [upd_ne (fun z => (r.at' n p b h1 h2).notbl hm0 ps (by rw [← z]; exact e'))]; exact e'⟩, x⟩
  · by_cases hm : n = m
    · subst hm
      rw [h1] at q1
      have e1 : p = a := Option.some.inj q1
      rw [List.getElem?_set_self (List.getElem?_eq_some_iff.mp h2).1] at q2
      have e2 : b' = u := Option.some.inj q2
      rw [← e1, ← e2]; exact hb x
    · rw [List.getElem?_set_ne hm] at q2
      refine (r.at' m a u q1 q2).ext x (fun hu => ?_) (fun y' z' e' => ?_)
      · have : a ≠ p := fun e' => hm (r.uniq n m p b u h1 (by rw [← e']; exact q1) h2 q2 hw hu)
        rw [upd_ne this]
      · have : a ≠ p := fun e'' => by
          rw [e''] at e'; rw [e] at e'; exact t2 _ _ (Option.some.inj e')
        rw [upd_ne this]; exact e'
  · obtain ⟨u', a1, a2⟩ := key m u q3 w1
    obtain ⟨v', b1, b2⟩ := key k v q4 w2
    exact r.uniq m k a u' v' q1 q2 a1 b1 a2 b2
end
end Eng

/-! The engine, part 1: outcomes, the judgements, names, constants, operators, tests, displays. -/
namespace Eng
open PySem PySem.Spec PyProof.Rows L2
variable [TabCfg]

section
variable (K : PySem.W.Frag) (mg : Str → Option Value)
/-- an exception: its class by name, its own fields in its own dict -/
def Xd (β : List Addr) (H : Hp) (cls : Value) (od : Option Addr) (x : Exn) : Prop :=
  ∃ C, mg x.cls = some (.ref C) ∧ cls = .ref C ∧ Fx K mg β H od x.fs
/-- an outcome leads to G, or, by an exception, to the wish W -/
def Po {α : Type} (W : WX) (σ : L2.St) (β : List Addr) (H : Hp) (r : R α) (G : α → List Addr → Sto → Hp → Prop) : Prop :=
  match r with
  | .ok d S => ∀ β' H', Xt K β H β' H' → Rl K mg β' H' S → G d β' S H'
  | .ex x S => ∀ cls od β' H', Xt K β H β' H' → Rl K mg β' H' S → Xd K mg β' H' cls od x → W cls od σ H'
  | .stuck => False
def tM (W : WX) (m : Mx) : TE := fun σ H Q => ∃ β S ρ, Rl K mg β H S ∧ En K mg β H ρ σ ∧ Po K mg W σ β H (m ρ S) fun d β' _ H' => ∀ v, Vd K mg β' H' v d → Q v H'
abbrev Mb := Env' → Sto → R Bool
def tMT (W : WX) (m : Mb) : TT := fun σ H Q => ∃ β S ρ, Rl K mg β H S ∧ En K mg β H ρ σ ∧ Po K mg W σ β H (m ρ S) fun b _ _ H' => Q b H'
abbrev Ma := Env' → Sto → R (List D)
def tMA (W : WX) (m : Ma) : TA := fun σ H Q => ∃ β S ρ, Rl K mg β H S ∧ En K mg β H ρ σ ∧ Po K mg W σ β H (m ρ S) fun ds β' _ H' => ∀ vs, Vds K mg β' H' vs ds → Q vs H'
end
section
variable {K : PySem.W.Frag} {mg : Str → Option Value} {W : WX} {σ : L2.St} {β β1 : List Addr} {H H1 : Hp} {α γ : Type}
theorem Po.xt {r : R α} {G : α → List Addr → Sto → Hp → Prop} (h : Po K mg W σ β H r G) (x : Xt K β H β1 H1) : Po K mg W σ β1 H1 r G := by
  cases r with
  | ok d S => exact fun β' H' y r => h β' H' (x.trans y) r
  | ex e S => exact fun cls od β' H' y r q => h cls od β' H' (x.trans y) r q
  | stuck => exact h
theorem Po.mono {r : R α} {G G' : α → List Addr → Sto → Hp → Prop} (h : Po K mg W σ β H r G) (f : ∀ d β' S H', Xt K β H β' H' → Rl K mg β' H' S → G d β' S H' → G' d β' S H') : Po K mg W σ β H r G' := by
  cases r with
  | ok d S => exact fun β' H' y r => f d β' S H' y r (h β' H' y r)
  | ex e S => exact h
  | stuck => exact h
theorem Po.bind {r : R α} {k : α → Sto → R γ} {G : γ → List Addr → Sto → Hp → Prop} (h : Po K mg W σ β H (r.bind k) G) : Po K mg W σ β H r fun d β' S H' => Po K mg W σ β' H' (k d S) G := by
  cases r with
  | ok d S => exact fun β' H' y r => Po.xt (show Po K mg W σ β H (k d S) G from h) y
  | ex e S => exact h
  | stuck => exact h
end

structure ME (X : Cx) (W : WX) (e : Expr) (m : Mx) : Prop where
  pe : PE X e (tM X.K X.mg W m)
structure MT (X : Cx) (W : WX) (e : Expr) (m : Mb) : Prop where
  pt : PT X e (tMT X.K X.mg W m)
structure MW (X : Cx) (W : WX) (e : Expr) (m : Mb) : Prop where
  pw : PW X e (tMT X.K X.mg W m)
structure MA (X : Cx) (W : WX) (es : List Expr) (m : Ma) : Prop where
  pa : PA X es (tMA X.K X.mg W m)
theorem PE.weak {X : Cx} {e : Expr} {t t' : TE} (h : PE X e t) (i : ∀ σ H Q, t' σ H Q → t σ H Q) : PE X e t' := ⟨fun pins s σ H Q I q => h.run pins s σ H Q I (i σ H Q q)⟩
theorem PT.weak {X : Cx} {e : Expr} {t t' : TT} (h : PT X e t) (i : ∀ σ H Q, t' σ H Q → t σ H Q) : PT X e t' := ⟨fun pins s σ H Q I q => h.run pins s σ H Q I (i σ H Q q)⟩
theorem PW.weak {X : Cx} {e : Expr} {t t' : TT} (h : PW X e t) (i : ∀ σ H Q, t' σ H Q → t σ H Q) : PW X e t' := ⟨fun wh pins s σ H Q I q => h.run wh pins s σ H Q I (i σ H Q q)⟩
theorem PA.weak {X : Cx} {e : List Expr} {t t' : TA} (h : PA X e t) (i : ∀ σ H Q, t' σ H Q → t σ H Q) : PA X e t' := ⟨fun pos pins s σ H Q I q => h.run pos pins s σ H Q I (i σ H Q q)⟩

/-! ### names and constants -/
def getV (ρ : Env') (i : Nat) (S : Sto) : R D := match ρ[i]? with
  | some (some d) => .ok d S
  | _ => .stuck
def mVar (i : Nat) : Mx := fun ρ S => getV ρ i S
def mC (d : D) : Mx := fun _ S => .ok d S
section
variable {X : Cx} {W : WX}
theorem me_of_var {i : Nat} {e : Expr} (h : PE X e (tVar i)) : ME X W e (mVar i) := by
  refine ⟨PE.weak h fun σ H Q ⟨β, S, ρ, r, en, p⟩ => ?_⟩
  unfold mVar getV at p
  cases q : ρ[i]? with
  | none => rw [q] at p; exact p.elim
  | some o =>
    cases o with
    | none => rw [q] at p; exact p.elim
    | some d =>
      rw [q] at p
      obtain ⟨v, h1, h2⟩ := en.at' i d q
      exact ⟨v, h1, p β H .refl r v h2⟩
theorem me_var (i : Nat) {x : Str} {pos : Pos} (hN : X.N[i]? = some x := by rfl) (hv : Vis X.env.scope x := by first | exact Or.inl rfl | exact Or.inr (Or.inl rfl) | exact Or.inr (Or.inr rfl)) (hd : (x == ("__debug__" : Str)) = false := by decide)
    (hcd : (x == ("__classdict__" : Str)) = false := by decide) : ME X W (.Name x pos) (mVar i) := me_of_var (pe_var hN hv hd hcd)
theorem me_of_c {v : V} {d : D} {e : Expr} (h : PE X e (tC v)) (hd : ∀ β H, Vd X.K X.mg β H v d) : ME X W e (mC d) :=
  ⟨PE.weak h fun σ H Q ⟨β, S, ρ, r, en, p⟩ => p β H .refl r v (hd β H)⟩
theorem me_int {i : Int} {j : Nat} {pos : Pos} : ME X W (.Constant (.int i) j pos) (mC (.int i)) := me_of_c pe_int fun _ _ => .int i
theorem me_bl {b : Bool} {j : Nat} {pos : Pos} : ME X W (.Constant (.bool b) j pos) (mC (.bl b)) := me_of_c pe_bl fun _ _ => .bl b
theorem me_non {j : Nat} {pos : Pos} : ME X W (.Constant .none j pos) (mC .non) := me_of_c pe_non fun _ _ => .non
theorem me_str {x : Str} {j : Nat} {pos : Pos} : ME X W (.Constant (.str x) j pos) (mC (.str x)) := me_of_c pe_str fun _ _ => .str x
/-- a def or class of the text as a value -/
theorem me_gl {x : Str} {a : Addr} {pos : Pos} (hg : Gl X x) (hm : X.mg x = some (.ref a)) (hdb : (x == ("__debug__" : Str)) = false := by decide) : ME X W (.Name x pos) (mC (.gl x)) := me_of_c (pe_glob (v := .ref a) hg hm rfl hdb) fun _ _ => .gl hm
/-- a module's constant -/
theorem me_glI {x : Str} {i : Int} {t : Tok} {pos : Pos} (hg : Gl X x) (hm : X.mg x = some (.int i t)) (hdb : (x == ("__debug__" : Str)) = false := by decide) : ME X W (.Name x pos) (mC (.int i)) := me_of_c (pe_glob (v := .int i) hg hm ⟨t, rfl⟩ hdb) fun _ _ => .int i
theorem me_glS {x z : Str} {t : Tok} {pos : Pos} (hg : Gl X x) (hm : X.mg x = some (.str z t)) (hdb : (x == ("__debug__" : Str)) = false := by decide) : ME X W (.Name x pos) (mC (.str z)) := me_of_c (pe_glob (v := .str z) hg hm ⟨t, rfl⟩ hdb) fun _ _ => .str z
/-- a built-in type as a value -/
theorem me_ty {x : Str} {n : String} {pos : Pos} (hg : Gl X x) (hm : X.mg x = none) (hv : bootBuiltins x = some (.type n)) (hn : x ≠ "__name__" := by decide) (hdb : (x == ("__debug__" : Str)) = false := by decide) : ME X W (.Name x pos) (mC (.ty n)) := me_of_c (pe_bltn (v := .ty n) hg hm hv rfl hn hdb) fun _ _ => .ty n
end

/-! ### operators -/
abbrev F1 := D → Sto → Option (D × Sto)
abbrev F2 := D → D → Sto → Option (D × Sto)
def R.ofO : Option (D × Sto) → R D
  | some (d, S) => .ok d S
  | none => .stuck
def mUn (f : F1) (ma : Mx) : Mx := fun ρ S => (ma ρ S).bind fun x S1 => R.ofO (f x S1)
def mBin (f : F2) (ma mb : Mx) : Mx := fun ρ S => (ma ρ S).bind fun x S1 => (mb ρ S1).bind fun y S2 => R.ofO (f x y S2)
/-- the values' rule r is what f says -/
def Op2 (X : Cx) (r : R2) (f : F2) : Prop := ∀ β H S x y v u d S' Q, Rl X.K X.mg β H S → Vd X.K X.mg β H v x → Vd X.K X.mg β H u y → f x y S = some (d, S') →
  (∀ β' H' w, Xt X.K β H β' H' → Rl X.K X.mg β' H' S' → Vd X.K X.mg β' H' w d → Q w H') → r v u H Q
def Op1 (X : Cx) (r : V → Hp → VK → Prop) (f : F1) : Prop := ∀ β H S x v d S' Q, Rl X.K X.mg β H S → Vd X.K X.mg β H v x → f x S = some (d, S') →
  (∀ β' H' w, Xt X.K β H β' H' → Rl X.K X.mg β' H' S' → Vd X.K X.mg β' H' w d → Q w H') → r v H Q
section
variable {K : PySem.W.Frag} {mg : Str → Option Value} {W : WX} {σ : L2.St} {β : List Addr} {H : Hp}
theorem Po.ofO {o : Option (D × Sto)} {G : D → List Addr → Sto → Hp → Prop} (h : Po K mg W σ β H (R.ofO o) G) : ∃ d S, o = some (d, S) ∧ ∀ β' H', Xt K β H β' H' → Rl K mg β' H' S → G d β' S H' := by
  cases o with
  | none => exact h.elim
  | some p => exact ⟨p.1, p.2, rfl, h⟩
end
section
variable {X : Cx} {W : WX} {a b c : Expr} {ma mb mc : Mx} {pos : Pos}
/-- the reading of two parts in a row, then a rule of values -/
theorem two_of {r : R2} {f : F2} (hf : Op2 X r f) {σ : L2.St} {H : Hp} {Q : VK} (h : tM X.K X.mg W (mBin f ma mb) σ H Q) : tM X.K X.mg W ma σ H fun x H1 => tM X.K X.mg W mb σ H1 fun y H2 => r x y H2 Q := by
  obtain ⟨β, S, ρ, rl, en, p⟩ := h
  refine ⟨β, S, ρ, rl, en, p.bind.mono fun d β1 S1 H1 x1 r1 q v hv => ⟨β1, S1, ρ, r1, en.ext x1, q.bind.mono fun e β2 S2 H2 x2 r2 q2 u hu => ?_⟩⟩
  obtain ⟨z, S3, e3, k⟩ := q2.ofO
  exact hf β2 H2 S2 d e v u z S3 Q r2 (hv.ext x2) hu e3 fun β' H' w x r hw => k β' H' x r w hw
theorem me_bin {r : R2} {f : F2} {op : Operator} (ho : OpR X (binaryOp op) r) (hf : Op2 X r f) (ha : ME X W a ma) (hb : ME X W b mb) : ME X W (.BinOp a op b pos) (mBin f ma mb) :=
  ⟨PE.weak (pe_op ho ha.pe hb.pe) fun σ H Q h => two_of hf h⟩
theorem me_cmp {r : R2} {f : F2} {op : CmpOp} (ho : OpR X (compareOp op) r) (hf : Op2 X r f) (ha : ME X W a ma) (hb : ME X W b mb) (hm : behindInMarks op b = false) : ME X W (.Compare a [op] [b] pos) (mBin f ma mb) :=
  ⟨PE.weak (pe_cmpR ho ha.pe hb.pe hm) fun σ H Q h => two_of hf h⟩
theorem me_un {r : V → Hp → VK → Prop} {f : F1} {op : UnaryOp} (ho : UnR X (unaryOp op) r) (hf : Op1 X r f) (ha : ME X W a ma) : ME X W (.UnaryOp op a pos) (mUn f ma) := by
  refine ⟨PE.weak (pe_un ho ha.pe) fun σ H Q ⟨β, S, ρ, rl, en, p⟩ => ?_⟩
  refine ⟨β, S, ρ, rl, en, p.bind.mono fun d β1 S1 H1 x1 r1 q v hv => ?_⟩
  obtain ⟨z, S3, e3, k⟩ := q.ofO
  exact hf β1 H1 S1 d v z S3 Q r1 hv e3 fun β' H' w x r hw => k β' H' x r w hw
end

/-! ### tests -/
/-- an expression whose value is a bool, as a test -/
def asB (r : R D) : R Bool := r.bind fun d S => match d with
  | .bl b => .ok b S
  | _ => .stuck
def mTB (m : Mx) : Mb := fun ρ S => asB (m ρ S)
/-- a value's truth -/
def truD : D → Sto → Option Bool
  | .non, _ => some false
  | .bl b, _ => some b
  | .int i, _ => some (i != 0)
  | .str y, _ => if y.length ≤ sizeLine then some ((y.length : Int) != 0) else none
  | .tup xs, _ => some (!xs.isEmpty)
  | .ref n, S => match S[n]? with
    | some (.lst xs) => some (!xs.isEmpty)
    | some (.rdl xs) => some (!xs.isEmpty)
    | some (.dk kvs) => some (!kvs.isEmpty)
    | _ => none
  | _, _ => none
def mTru (m : Mx) : Mb := fun ρ S => (m ρ S).bind fun d S1 => match truD d S1 with
  | some b => .ok b S1
  | none => .stuck
def mAnd (ma mb : Mb) : Mb := fun ρ S => (ma ρ S).bind fun c S1 => if c = true then mb ρ S1 else .ok false S1
def mOr (ma mb : Mb) : Mb := fun ρ S => (ma ρ S).bind fun c S1 => if c = true then .ok true S1 else mb ρ S1
def mNot (ma : Mb) : Mb := fun ρ S => (ma ρ S).bind fun c S1 => .ok (!c) S1
def mBl (m : Mb) : Mx := fun ρ S => (m ρ S).bind fun c S1 => .ok (.bl c) S1
def mIf (mt : Mb) (ma mb : Mx) : Mx := fun ρ S => (mt ρ S).bind fun c S1 => if c = true then ma ρ S1 else mb ρ S1
theorem isEmpty_vds {K : PySem.W.Frag} {mg : Str → Option Value} {β : List Addr} {H : Hp} {vs : List V} {ds : List D} (h : Vds K mg β H vs ds) : (!vs.isEmpty) = !ds.isEmpty := by cases h <;> rfl
theorem Vd.bl_inv {K : PySem.W.Frag} {mg : Str → Option Value} {β : List Addr} {H : Hp} {v : V} {b : Bool} (h : Vd K mg β H v (.bl b)) : v = .bl b := by cases h; rfl
theorem Vd.int_inv {K : PySem.W.Frag} {mg : Str → Option Value} {β : List Addr} {H : Hp} {v : V} {b : Int} (h : Vd K mg β H v (.int b)) : v = .int b := by cases h; rfl
theorem Vd.str_inv {K : PySem.W.Frag} {mg : Str → Option Value} {β : List Addr} {H : Hp} {v : V} {b : Str} (h : Vd K mg β H v (.str b)) : v = .str b := by cases h; rfl
theorem Vd.non_inv {K : PySem.W.Frag} {mg : Str → Option Value} {β : List Addr} {H : Hp} {v : V} (h : Vd K mg β H v .non) : v = .non := by cases h; rfl
theorem Vd.tup_inv {K : PySem.W.Frag} {mg : Str → Option Value} {β : List Addr} {H : Hp} {v : V} {ds : List D} (h : Vd K mg β H v (.tup ds)) : ∃ a xs, v = .ref a ∧ SqT K H a xs ∧ Vds K mg β H xs ds := by
  cases h with
  | tup h t => exact ⟨_, _, rfl, .of h, t⟩
theorem Vd.ref_inv {K : PySem.W.Frag} {mg : Str → Option Value} {β : List Addr} {H : Hp} {v : V} {n : Nat} (h : Vd K mg β H v (.ref n)) : ∃ a, v = .ref a ∧ β[n]? = some a := by
  cases h with
  | ref h => exact ⟨_, rfl, h⟩
theorem Vd.tup_at {K : PySem.W.Frag} {mg : Str → Option Value} {β : List Addr} {H : Hp} {v : V} {ds : List D} (h : Vd K mg β H v (.tup ds)) : ∃ a xs, v = .ref a ∧ H a = some (.tup xs) ∧ Vds K mg β H xs ds := by
  cases h with
  | tup h t => exact ⟨_, _, rfl, h, t⟩
/-- a list of the store, to be read -/
def lstAt (S : Sto) (n : Nat) : Option (List D) := match S[n]? with
  | some (.lst xs) => some xs
  | some (.rdl xs) => some xs
  | _ => none
theorem lst_read {K : PySem.W.Frag} {mg : Str → Option Value} {β : List Addr} {H : Hp} {S : Sto} {n : Nat} {a : Addr} {ds : List D} (r : Rl K mg β H S) (h : β[n]? = some a) (hs : lstAt S n = some ds) : ∃ xs, SqL K H a xs ∧ Vds K mg β H xs ds := by
  unfold lstAt at hs
  cases q : S[n]? with
  | none => rw [q] at hs; cases hs
  | some o =>
    rw [q] at hs
    have ho := r.at' n a o h q
    cases o with
    | lst xs =>
      have e : xs = ds := Option.some.inj hs
      subst e
      obtain ⟨vs, h1, h2⟩ := ho
      exact ⟨vs, .of h1, h2⟩
    | rdl xs =>
      have e : xs = ds := Option.some.inj hs
      subst e
      obtain ⟨vs, h1, h2⟩ := ho
      refine ⟨vs, ?_, h2⟩
      rcases h1 with ⟨u, h1⟩ | h1
      · exact .inl (.inr ⟨u, h1⟩)
      · exact .inr h1
    | _ => cases hs
theorem tru_of {K : PySem.W.Frag} {mg : Str → Option Value} {β : List Addr} {H : Hp} {S : Sto} {v : V} {d : D} {b : Bool} (r : Rl K mg β H S) (h : Vd K mg β H v d) (e : truD d S = some b) : TruV K v H b := by
  cases h with
  | non => cases e; rfl
  | bl c => cases e; rfl
  | int i => cases e; rfl
  | str x =>
    have e' : (if x.length ≤ sizeLine then some ((x.length : Int) != 0) else none) = some b := e
    by_cases hl : x.length ≤ sizeLine
    · rw [if_pos hl] at e'
      cases e'
      exact ⟨hl, rfl⟩
    · rw [if_neg hl] at e'
      cases e'
  | ty n => cases e
  | @tup a xs ds h1 h2 =>
    cases e
    exact .inr (.inl ⟨xs, .of h1, (isEmpty_vds h2).symm⟩)
  | @ref a n h1 =>
    have e' : (match S[n]? with
      | some (.lst xs) => some (!xs.isEmpty)
      | some (.rdl xs) => some (!xs.isEmpty)
      | some (.dk kvs) => some (!kvs.isEmpty)
      | _ => none) = some b := e
    cases q : S[n]? with
    | none => rw [q] at e'; cases e'
    | some o =>
      rw [q] at e'
      cases o with
      | lst xs =>
        cases e'
        obtain ⟨vs, h3, h4⟩ := lst_read (ds := xs) r h1 (by unfold lstAt; rw [q])
        exact .inl ⟨vs, h3, (isEmpty_vds h4).symm⟩
      | rdl xs =>
        cases e'
        obtain ⟨vs, h3, h4⟩ := lst_read (ds := xs) r h1 (by unfold lstAt; rw [q])
        exact .inl ⟨vs, h3, (isEmpty_vds h4).symm⟩
      | dk kvs =>
        cases e'
        obtain ⟨vs, h3, h4⟩ := r.at' n a _ h1 q
        refine .inr (.inr ⟨vs, h3, ?_⟩)
        cases h4 <;> rfl
      | _ => cases e'
  | gl h1 => cases e
section
variable {X : Cx} {W : WX} {a b c : Expr} {ma mb mc : Mx} {ta tb : Mb} {rest : List Expr} {pos : Pos}
theorem tb_of {σ : L2.St} {H : Hp} {Q : Bool → Hp → Prop} (h : tMT X.K X.mg W (mTB ma) σ H Q) : tM X.K X.mg W ma σ H fun x H1 => ∃ c, x = .bl c ∧ Q c H1 := by
  obtain ⟨β, S, ρ, rl, en, p⟩ := h
  refine ⟨β, S, ρ, rl, en, (show Po X.K X.mg W σ β H ((ma ρ S).bind _) _ from p).bind.mono fun d β1 S1 H1 x1 r1 q v hv => ?_⟩
  cases d with
  | bl b => cases hv; exact ⟨b, rfl, q β1 H1 .refl r1⟩
  | _ => exact q.elim
/-- a comparison, a call that gives a bool .. as a test -/
theorem mt_val (h : ME X W a ma) (he : ∀ whole, isTrue a X.env whole = (do let v ← whole; standAt a.pos; holding [v] (truthy v)) := by intro _; rfl) : MT X W a (mTB ma) :=
  ⟨PT.weak (pt_val h.pe he) fun σ H Q h => tb_of h⟩
theorem mt_tru (h : ME X W a ma) (he : ∀ whole, isTrue a X.env whole = (do let v ← whole; standAt a.pos; holding [v] (truthy v)) := by intro _; rfl) : MT X W a (mTru ma) := by
  refine ⟨PT.weak (pt_truth h.pe he) fun σ H Q ⟨β, S, ρ, rl, en, p⟩ => ?_⟩
  refine ⟨β, S, ρ, rl, en, (show Po X.K X.mg W σ β H ((ma ρ S).bind _) _ from p).bind.mono fun d β1 S1 H1 x1 r1 q v hv => ?_⟩
  cases e : truD d S1 with
  | none => rw [e] at q; exact q.elim
  | some b =>
    rw [e] at q
    exact ⟨b, tru_of r1 hv e, q β1 H1 .refl r1⟩
theorem mt_cmp {r : R2} {f : F2} {op : CmpOp} (ho : OpR X (compareOp op) r) (hf : Op2 X r f) (ha : ME X W a ma) (hb : ME X W b mb) (hm : behindInMarks op b = false) : MT X W (.Compare a [op] [b] pos) (mTB (mBin f ma mb)) :=
  ⟨PT.weak (pt_cmpR ho ha.pe hb.pe hm) fun σ H Q h => two_of hf (tb_of h)⟩
theorem mw_pt (h : MW X W a ta) : MT X W a ta := ⟨h.pw.pt⟩
theorem mw_and1 (h : MT X W a ta) : MW X W (.BoolOp .And [a] pos) ta := ⟨pw_and1 h.pt⟩
theorem mw_or1 (h : MT X W a ta) : MW X W (.BoolOp .Or [a] pos) ta := ⟨pw_or1 h.pt⟩
theorem and_of {σ : L2.St} {H : Hp} {Q : Bool → Hp → Prop} (h : tMT X.K X.mg W (mAnd ta tb) σ H Q) : tMT X.K X.mg W ta σ H fun c H1 => if c = true then tMT X.K X.mg W tb σ H1 Q else Q false H1 := by
  obtain ⟨β, S, ρ, rl, en, p⟩ := h
  refine ⟨β, S, ρ, rl, en, p.bind.mono fun c β1 S1 H1 x1 r1 q => ?_⟩
  cases c with
  | true => rw [if_pos rfl] at q ⊢; exact ⟨β1, S1, ρ, r1, en.ext x1, q⟩
  | false => rw [if_neg Bool.false_ne_true] at q ⊢; exact q β1 H1 .refl r1
theorem or_of {σ : L2.St} {H : Hp} {Q : Bool → Hp → Prop} (h : tMT X.K X.mg W (mOr ta tb) σ H Q) : tMT X.K X.mg W ta σ H fun c H1 => if c = true then Q true H1 else tMT X.K X.mg W tb σ H1 Q := by
  obtain ⟨β, S, ρ, rl, en, p⟩ := h
  refine ⟨β, S, ρ, rl, en, p.bind.mono fun c β1 S1 H1 x1 r1 q => ?_⟩
  cases c with
  | true => rw [if_pos rfl] at q ⊢; exact q β1 H1 .refl r1
  | false => rw [if_neg Bool.false_ne_true] at q ⊢; exact ⟨β1, S1, ρ, r1, en.ext x1, q⟩
theorem mw_and (ha : MT X W a ta) (hb : MW X W (.BoolOp .And (b :: rest) pos) tb) : MW X W (.BoolOp .And (a :: b :: rest) pos) (mAnd ta tb) := ⟨PW.weak (pw_and ha.pt hb.pw) fun _ _ _ h => and_of h⟩
theorem mw_or (ha : MT X W a ta) (hb : MW X W (.BoolOp .Or (b :: rest) pos) tb) : MW X W (.BoolOp .Or (a :: b :: rest) pos) (mOr ta tb) := ⟨PW.weak (pw_or ha.pt hb.pw) fun _ _ _ h => or_of h⟩
theorem mt_not (ha : MT X W a ta) : MT X W (.UnaryOp .Not a pos) (mNot ta) := by
  refine ⟨PT.weak (pt_not ha.pt) fun σ H Q ⟨β, S, ρ, rl, en, p⟩ => ?_⟩
  exact ⟨β, S, ρ, rl, en, p.bind.mono fun c β1 S1 H1 x1 r1 q => q β1 H1 .refl r1⟩
/-- as values -/
def mAndV (ma mb : Mx) : Mx := fun ρ S => (ma ρ S).bind fun d S1 => match truD d S1 with
  | some true => mb ρ S1
  | some false => .ok d S1
  | none => .stuck
def mOrV (ma mb : Mx) : Mx := fun ρ S => (ma ρ S).bind fun d S1 => match truD d S1 with
  | some true => .ok d S1
  | some false => mb ρ S1
  | none => .stuck
def mNotV (ma : Mx) : Mx := fun ρ S => (ma ρ S).bind fun d S1 => match truD d S1 with
  | some b => .ok (.bl (!b)) S1
  | none => .stuck
theorem me_one {op} (h : ME X W a ma) : ME X W (.BoolOp op [a] pos) ma := ⟨pe_one h.pe⟩
theorem me_and (ha : ME X W a ma) (hb : ME X W (.BoolOp .And (b :: rest) pos) mb) : ME X W (.BoolOp .And (a :: b :: rest) pos) (mAndV ma mb) := by
  refine ⟨PE.weak (pe_andT ha.pe hb.pe) fun σ H Q ⟨β, S, ρ, rl, en, p⟩ => ?_⟩
  refine ⟨β, S, ρ, rl, en, p.bind.mono fun d β1 S1 H1 x1 r1 q v hv => ?_⟩
  cases e : truD d S1 with
  | none => rw [e] at q; exact q.elim
  | some k =>
    rw [e] at q
    refine ⟨k, tru_of r1 hv e, ?_⟩
    cases k with
    | true => rw [if_pos rfl]; exact ⟨β1, S1, ρ, r1, en.ext x1, q⟩
    | false => rw [if_neg Bool.false_ne_true]; exact q β1 H1 .refl r1 v hv
theorem me_or (ha : ME X W a ma) (hb : ME X W (.BoolOp .Or (b :: rest) pos) mb) : ME X W (.BoolOp .Or (a :: b :: rest) pos) (mOrV ma mb) := by
  refine ⟨PE.weak (pe_orT ha.pe hb.pe) fun σ H Q ⟨β, S, ρ, rl, en, p⟩ => ?_⟩
  refine ⟨β, S, ρ, rl, en, p.bind.mono fun d β1 S1 H1 x1 r1 q v hv => ?_⟩
  cases e : truD d S1 with
  | none => rw [e] at q; exact q.elim
  | some k =>
    rw [e] at q
    refine ⟨k, tru_of r1 hv e, ?_⟩
    cases k with
    | true => rw [if_pos rfl]; exact q β1 H1 .refl r1 v hv
    | false => rw [if_neg Bool.false_ne_true]; exact ⟨β1, S1, ρ, r1, en.ext x1, q⟩
theorem me_not (ha : ME X W a ma) : ME X W (.UnaryOp .Not a pos) (mNotV ma) := by
  refine ⟨PE.weak (pe_notT ha.pe) fun σ H Q ⟨β, S, ρ, rl, en, p⟩ => ?_⟩
  refine ⟨β, S, ρ, rl, en, p.bind.mono fun d β1 S1 H1 x1 r1 q v hv => ?_⟩
  cases e : truD d S1 with
  | none => rw [e] at q; exact q.elim
  | some k =>
    rw [e] at q
    exact ⟨k, tru_of r1 hv e, q β1 H1 .refl r1 _ (.bl _)⟩
theorem me_if (hc : MT X W c ta) (ha : ME X W a ma) (hb : ME X W b mb) : ME X W (.IfExp c a b pos) (mIf ta ma mb) := by
  refine ⟨PE.weak (pe_ifExp hc.pt ha.pe hb.pe) fun σ H Q ⟨β, S, ρ, rl, en, p⟩ => ?_⟩
  refine ⟨β, S, ρ, rl, en, p.bind.mono fun k β1 S1 H1 x1 r1 q => ?_⟩
  cases k with
  | true => rw [if_pos rfl] at q ⊢; exact ⟨β1, S1, ρ, r1, en.ext x1, q⟩
  | false => rw [if_neg Bool.false_ne_true] at q ⊢; exact ⟨β1, S1, ρ, r1, en.ext x1, q⟩
end

/-! ### chains of two comparisons -/
def mChain (f g : F2) (ma mb mc : Mx) : Mx := fun ρ S => (ma ρ S).bind fun x S1 => (mb ρ S1).bind fun y S2 => (asB (R.ofO (f x y S2))).bind fun k S3 =>
  if k = true then (mc ρ S3).bind fun z S4 => R.ofO (g y z S4) else .ok (.bl false) S3
section
variable {X : Cx} {W : WX} {a b c : Expr} {ma mb mc : Mx} {pos : Pos}
theorem chain_of {r r' : R2} {f g : F2} (hf : Op2 X r f) (hg : Op2 X r' g) {σ : L2.St} {H : Hp} {Q : VK} (h : tM X.K X.mg W (mChain f g ma mb mc) σ H Q) :
    tChain r r' (tM X.K X.mg W ma) (tM X.K X.mg W mb) (tM X.K X.mg W mc) σ H Q := by
  obtain ⟨β, S, ρ, rl, en, p⟩ := h
  refine ⟨β, S, ρ, rl, en, p.bind.mono fun d β1 S1 H1 x1 r1 q v hv => ⟨β1, S1, ρ, r1, en.ext x1, q.bind.mono fun e β2 S2 H2 x2 r2 q2 u hu => ?_⟩⟩
  have q3 := q2.bind
  unfold asB at q3
  have q4 := q3.bind
  obtain ⟨z, S3, e3, k⟩ := q4.ofO
  refine hf β2 H2 S2 d e v u z S3 _ r2 (hv.ext x2) hu e3 fun β3 H3 w x3 r3 hw => ?_
  have k' := k β3 H3 x3 r3
  cases z with
  | bl t =>
    cases hw
    refine ⟨t, rfl, ?_⟩
    have k2 := k' β3 H3 .refl r3
    cases t with
    | true =>
      rw [if_pos rfl] at k2 ⊢
      refine ⟨β3, S3, ρ, r3, en.ext (x1.trans (x2.trans x3)), k2.bind.mono fun z4 β4 S4 H4 x4 r4 q5 w4 h4 => ?_⟩
      obtain ⟨z5, S5, e5, k5⟩ := q5.ofO
      exact hg β4 H4 S4 e z4 u w4 z5 S5 Q r4 (hu.ext (x3.trans x4)) h4 e5 fun β' H' w x r hw => k5 β' H' x r w hw
    | false =>
      rw [if_neg Bool.false_ne_true] at k2 ⊢
      exact k2 β3 H3 .refl r3 _ (.bl false)
  | _ => exact k'.elim
theorem me_chain {op op' : CmpOp} {r r' : R2} {f g : F2} (ho : OpR X (compareOp op) r) (hf : Op2 X r f) (ho' : OpR X (compareOp op') r') (hg : Op2 X r' g) (ha : ME X W a ma) (hb : ME X W b mb) (hc : ME X W c mc)
    (hm : lastMarks [op, op'] [b, c] = false := by with_unfolding_all rfl) : ME X W (.Compare a [op, op'] [b, c] pos) (mChain f g ma mb mc) := ⟨PE.weak (pe_chain ho ho' ha.pe hb.pe hc.pe hm) fun _ _ _ h => chain_of hf hg h⟩
theorem mt_chain {op op' : CmpOp} {r r' : R2} {f g : F2} (ho : OpR X (compareOp op) r) (hf : Op2 X r f) (ho' : OpR X (compareOp op') r') (hg : Op2 X r' g) (ha : ME X W a ma) (hb : ME X W b mb) (hc : ME X W c mc)
    (hm : lastMarks [op, op'] [b, c] = false := by with_unfolding_all rfl) : MT X W (.Compare a [op, op'] [b, c] pos) (mTB (mChain f g ma mb mc)) := ⟨PT.weak (pt_chain ho ho' ha.pe hb.pe hc.pe hm) fun _ _ _ h => chain_of hf hg (tb_of h)⟩
end

/-! ### argument lists, displays -/
def mNil : Ma := fun _ S => .ok [] S
def mCons (m : Mx) (mr : Ma) : Ma := fun ρ S => (m ρ S).bind fun d S1 => (mr ρ S1).bind fun ds S2 => .ok (d :: ds) S2
def mTup (m : Ma) : Mx := fun ρ S => (m ρ S).bind fun ds S1 => if ds.length ≤ sizeLine then .ok (.tup ds) S1 else .stuck
def newL (ds : List D) (S : Sto) : R D := if ds.length ≤ sizeLine then .ok (.ref S.length) (S ++ [.lst ds]) else .stuck
def mLst (m : Ma) : Mx := fun ρ S => (m ρ S).bind fun ds S1 => newL ds S1
section
variable {X : Cx} {W : WX} {e : Expr} {es : List Expr} {m : Mx} {mr : Ma} {pos : Pos}
theorem ma_nil : MA X W [] mNil := ⟨PA.weak pa_nil fun σ H Q ⟨β, S, ρ, rl, en, p⟩ => p β H .refl rl [] .nil⟩
theorem ma_cons (ha : ME X W e m) (hr : MA X W es mr) (hs : starEach (e :: es) X.env = (false, eval e X.env) :: starEach es X.env := by rfl) : MA X W (e :: es) (mCons m mr) := by
  refine ⟨PA.weak (pa_cons ha.pe hr.pa hs) fun σ H Q ⟨β, S, ρ, rl, en, p⟩ => ?_⟩
  refine ⟨β, S, ρ, rl, en, p.bind.mono fun d β1 S1 H1 x1 r1 q v hv => ⟨β1, S1, ρ, r1, en.ext x1, q.bind.mono fun ds β2 S2 H2 x2 r2 q2 vs hvs => ?_⟩⟩
  exact q2 β2 H2 .refl r2 (v :: vs) (.cons (hv.ext x2) hvs)
theorem me_tup {k} (h : MA X W es mr) : ME X W (.Tuple es k pos) (mTup mr) := by
  refine ⟨PE.weak (pe_tup h.pa) fun σ H Q ⟨β, S, ρ, rl, en, p⟩ => ?_⟩
  refine ⟨β, S, ρ, rl, en, p.bind.mono fun ds β1 S1 H1 x1 r1 q vs hvs => ?_⟩
  have hl := hvs.length
  split at q
  · rename_i hz
    exact ⟨by rw [hl]; exact hz, fun p hp => q β1 _ (xt_new' hp) (r1.tup hp) _ (.tup upd_same (hvs.ext (xt_new' hp)))⟩
  · exact q.elim
theorem newL_ok {K : PySem.W.Frag} {mg : Str → Option Value} {σ : L2.St} {β : List Addr} {H : Hp} {S : Sto} {ds : List D} {vs : List V} {G : D → List Addr → Sto → Hp → Prop} (r : Rl K mg β H S) (hv : Vds K mg β H vs ds) (p : Po K mg W σ β H (newL ds S) G) :
    vs.length ≤ sizeLine ∧ ∀ q, H q = none → ∃ β' S', Vd K mg β' (upd H q (.lst vs)) (.ref q) (.ref S.length) ∧ Xt K β H β' (upd H q (.lst vs)) ∧ Rl K mg β' (upd H q (.lst vs)) S' ∧ G (.ref S.length) β' S' (upd H q (.lst vs)) := by
  unfold newL at p
  split at p
  · rename_i hz
    refine ⟨by rw [hv.length]; exact hz, fun q hq => ?_⟩
    have x : Xt K β H (β ++ [q]) (upd H q (.lst vs)) := xt_new hq
    have r' : Rl K mg (β ++ [q]) (upd H q (.lst vs)) (S ++ [.lst ds]) := r.new hq ⟨vs, upd_same, hv.ext x⟩
    refine ⟨β ++ [q], S ++ [.lst ds], .ref ?_, x, r', p _ _ x r'⟩
    rw [← r.len, List.getElem?_append_right (Nat.le_refl _), Nat.sub_self]
    rfl
  · exact p.elim
theorem me_lst (h : MA X W es mr) : ME X W (.List es pos) (mLst mr) := by
  refine ⟨PE.weak (pe_lst h.pa) fun σ H Q ⟨β, S, ρ, rl, en, p⟩ => ?_⟩
  refine ⟨β, S, ρ, rl, en, p.bind.mono fun ds β1 S1 H1 x1 r1 q vs hvs => ?_⟩
  obtain ⟨h1, h2⟩ := newL_ok r1 hvs q
  refine ⟨h1, fun p hp => ?_⟩
  obtain ⟨β', S', v1, x2, r2, g⟩ := h2 p hp
  exact g _ v1
end
end Eng

/-! The engine, part 2: the operators' meanings. -/
namespace Eng
open PySem PySem.Spec PyProof.Rows L2
variable [TabCfg]

theorem OpR.or {X : Cx} {f : Value → Value → Sem Value} {r r' : R2} (h : OpR X f r) (h' : OpR X f r') : OpR X f (fun x y H Q => r x y H Q ∨ r' x y H Q) := by
  intro pins s σ H x y v u Q I rx ry q
  rcases q with q | q
  · exact h pins s σ H x y v u Q I rx ry q
  · exact h' pins s σ H x y v u Q I rx ry q
section
variable {X : Cx} {W : WX}
/-- a decision that no unfolding opens (the kernel must not count down from great numbers) -/
noncomputable def cdec (p : Prop) : Bool := @decide p (Classical.propDecidable p)
theorem cdec_of {p : Prop} (h : cdec p = true) : p := @of_decide_eq_true p (Classical.propDecidable p) h
theorem cdec_is {p : Prop} (h : p) : cdec p = true := @decide_eq_true p (Classical.propDecidable p) h
/-! ### whole numbers -/
/-- g where C -/
def fI (C : Int → Int → Bool) (g : Int → Int → D) : F2
  | .int i, .int j, S => if C i j = true then some (g i j, S) else none
  | _, _, _ => none
theorem op2_I {C : Int → Int → Prop} {c : Int → Int → Bool} {g : Int → Int → V} {g' : Int → Int → D} (hc : ∀ i j, c i j = true → C i j) (hg : ∀ i j β H, Vd X.K X.mg β H (g i j) (g' i j)) : Op2 X (rI C g) (fI c g') := by
  intro β H S x y v u d S' Q r hx hy e k
  cases x <;> cases y <;> first | (cases e; done) | skip
  rename_i i j
  cases hx; cases hy
  unfold fI at e
  dsimp only at e
  split at e
  · rename_i h
    cases e
    exact ⟨i, j, rfl, rfl, hc i j h, k β H _ .refl r (hg i j β H)⟩
  · cases e
def cT : Int → Int → Bool := fun _ _ => true
theorem op2_I0 {g : Int → Int → V} {g' : Int → Int → D} (hg : ∀ i j β H, Vd X.K X.mg β H (g i j) (g' i j)) : Op2 X (rI0 g) (fI cT g') := by
  intro β H S x y v u d S' Q r hx hy e k
  cases x <;> cases y <;> first | (cases e; done) | skip
  rename_i i j
  cases hx; cases hy
  unfold fI cT at e
  dsimp only at e
  rw [if_pos rfl] at e
  cases e
  exact ⟨i, j, rfl, rfl, k β H _ .refl r (hg i j β H)⟩
noncomputable def cPos (_ j : Int) : Bool := cdec (0 < j)
/-- a bound by figures, so that written numbers decide it -/
def big100 : Int := 10000000000000000000000000000000000000000000000000000000000000000000000000000000000000000000000000000
noncomputable def cDiv (_ j : Int) : Bool := cdec (0 < j) && cdec (j < big100)
theorem cDiv_ok {i j : Int} (h : cDiv i j = true) : CDivW i j := by
  unfold cDiv at h
  rw [Bool.and_eq_true] at h
  have h1 := cdec_of h.1
  have h2 := cdec_of h.2
  refine ⟨h1, ?_⟩
  have h3 : j.natAbs < 2 ^ 9000 := by
    have e : big100 < ((2 ^ 9000 : Nat) : Int) := by decide +kernel
    omega
  by_cases h0 : j.natAbs = 0
  · rw [h0]; decide
  · exact (Nat.log2_lt h0).mpr h3
noncomputable def in64 (i : Int) : Bool := cdec (-18446744073709551616 < i ∧ i < 18446744073709551616)
noncomputable def cMul1 (i j : Int) : Bool := in64 i || in64 j || cdec (i.natAbs.log2 + j.natAbs.log2 < 1000000)
noncomputable def cPow (i j : Int) : Bool := cdec (0 ≤ j ∧ j ≤ 1000000 ∧ i.natAbs < 2 ^ 64)
noncomputable def cShl (i j : Int) : Bool := cdec (0 ≤ j ∧ (Builtin.Int.intBits i : Int) + j ≤ 2 ^ 27)
noncomputable def cShr (_ j : Int) : Bool := cdec (0 ≤ j)
def fSub : F2 := fI cT fun i j => .int (i - j)
noncomputable def fDiv : F2 := fI cDiv fun i j => .int (i / j)
noncomputable def fMod : F2 := fI cPos fun i j => .int (i % j)
noncomputable def fPow : F2 := fI cPow fun i j => .int (i ^ j.toNat)
noncomputable def fShl : F2 := fI cShl fun i j => .int (i * 2 ^ j.toNat)
noncomputable def fShr : F2 := fI cShr fun i j => .int (i / 2 ^ j.toNat)
def fAnd : F2 := fI cT fun i j => .int (Builtin.bitAnd i j)
def fXor : F2 := fI cT fun i j => .int (Builtin.bitXor i j)
def fNeg : F1
  | .int i, S => some (.int (-i), S)
  | _, _ => none
variable {a b c : Expr} {ma mb mc : Mx} {pos : Pos}
theorem me_sub (ha : ME X W a ma) (hb : ME X W b mb) : ME X W (.BinOp a .Sub b pos) (mBin fSub ma mb) := me_bin op_sub (op2_I0 fun _ _ _ _ => .int _) ha hb
theorem me_div (ha : ME X W a ma) (hb : ME X W b mb) : ME X W (.BinOp a .FloorDiv b pos) (mBin fDiv ma mb) := me_bin op_fdivW (op2_I (fun i j h => cDiv_ok h) fun _ _ _ _ => .int _) ha hb
theorem me_mod (ha : ME X W a ma) (hb : ME X W b mb) : ME X W (.BinOp a .Mod b pos) (mBin fMod ma mb) := me_bin op_mod (op2_I (fun i j h => cdec_of h) fun _ _ _ _ => .int _) ha hb
theorem me_pow (ha : ME X W a ma) (hb : ME X W b mb) : ME X W (.BinOp a .Pow b pos) (mBin fPow ma mb) := me_bin op_pow (op2_I (fun i j h => cdec_of h) fun _ _ _ _ => .int _) ha hb
theorem me_shl (ha : ME X W a ma) (hb : ME X W b mb) : ME X W (.BinOp a .LShift b pos) (mBin fShl ma mb) := me_bin op_shlW (op2_I (fun i j h => cdec_of h) fun _ _ _ _ => .int _) ha hb
theorem me_shr (ha : ME X W a ma) (hb : ME X W b mb) : ME X W (.BinOp a .RShift b pos) (mBin fShr ma mb) := me_bin op_shr (op2_I (fun i j h => cdec_of h) fun _ _ _ _ => .int _) ha hb
theorem me_band (ha : ME X W a ma) (hb : ME X W b mb) : ME X W (.BinOp a .BitAnd b pos) (mBin fAnd ma mb) := me_bin op_and (op2_I0 fun _ _ _ _ => .int _) ha hb
theorem me_xor (ha : ME X W a ma) (hb : ME X W b mb) : ME X W (.BinOp a .BitXor b pos) (mBin fXor ma mb) := me_bin op_xor (op2_I0 fun _ _ _ _ => .int _) ha hb
theorem me_neg (ha : ME X W a ma) : ME X W (.UnaryOp .USub a pos) (mUn fNeg ma) := me_un un_neg (fun β H S x v d S' Q r hx e k => by
  cases x <;> first | (cases e; done) | skip
  rename_i i
  cases hx
  cases e
  exact ⟨i, rfl, k β H _ .refl r (.int _)⟩) ha
/-- * : whole numbers -/
theorem lt64 {i : Int} (h : i.natAbs < 2 ^ 64) : -(2 ^ 64) < i ∧ i < 2 ^ 64 := by omega
def CMul' (i j : Int) : Prop := CMul i j ∨ CMulW i j
theorem op_mul' {X : Cx} : OpR X (binaryOp .Mult) (rI CMul' fun i j => .int (i * j)) := by
  intro pins s σ H x y v u Q I rx ry ⟨i, j, e1, e2, hc, q⟩
  rcases hc with hc | hc
  · exact op_mul pins s σ H x y v u Q I rx ry ⟨i, j, e1, e2, hc, q⟩
  · exact op_mulW pins s σ H x y v u Q I rx ry ⟨i, j, e1, e2, hc, q⟩
theorem cMul1_ok {i j : Int} (h : cMul1 i j = true) : CMul' i j := by
  unfold cMul1 at h
  unfold in64 at h
  rw [Bool.or_eq_true, Bool.or_eq_true] at h
  rcases h with (h | h) | h
  · exact .inl (.inl (cdec_of h))
  · exact .inl (.inr (cdec_of h))
  · exact .inr (cdec_of h)
noncomputable def fMul : F2 := fI cMul1 fun i j => .int (i * j)
theorem me_mul (ha : ME X W a ma) (hb : ME X W b mb) : ME X W (.BinOp a .Mult b pos) (mBin fMul ma mb) := me_bin op_mul' (op2_I (fun i j h => cMul1_ok h) fun _ _ _ _ => .int _) ha hb
/-! ### + -/
def rAddAll (X : Cx) : R2 := fun x y H Q => (rI0 (fun i j => .int (i + j)) x y H Q ∨ (∃ i j, x = .str i ∧ y = .str j ∧ i.length + j.length ≤ sizeLine ∧ Q (.str (i ++ j)) H)) ∨ (rCatA X.K x y H Q ∨ rCat x y H Q)
theorem op_addAll : OpR X (binaryOp .Add) (rAddAll X) := OpR.or (OpR.or op_add op_add_str) (OpR.or op_catA op_cat)
def fAdd : F2
  | .int i, .int j, S => some (.int (i + j), S)
  | .str i, .str j, S => if i.length + j.length ≤ sizeLine then some (.str (i ++ j), S) else none
  | .tup xs, .tup ys, S => if xs.length + ys.length ≤ sizeLine then some (.tup (xs ++ ys), S) else none
  | .ref n, .ref m, S => match S[n]?, S[m]? with
    | some (.lst xs), some (.lst ys) => if xs.length + ys.length ≤ sizeLine then some (.ref S.length, S ++ [.lst (xs ++ ys)]) else none
    | _, _ => none
  | _, _, _ => none
theorem Rl.newL {K : PySem.W.Frag} {mg : Str → Option Value} {β : List Addr} {H : Hp} {S : Sto} {ds : List D} {vs : List V} (r : Rl K mg β H S) (hv : Vds K mg β H vs ds) {q : Addr} (hq : H q = none) :
    Xt K β H (β ++ [q]) (upd H q (.lst vs)) ∧ Rl K mg (β ++ [q]) (upd H q (.lst vs)) (S ++ [.lst ds]) ∧ Vd K mg (β ++ [q]) (upd H q (.lst vs)) (.ref q) (.ref S.length) := by
  have x : Xt K β H (β ++ [q]) (upd H q (.lst vs)) := xt_new hq
  refine ⟨x, r.new hq ⟨vs, upd_same, hv.ext x⟩, .ref ?_⟩
  rw [← r.len, List.getElem?_append_right (Nat.le_refl _), Nat.sub_self]
  rfl
theorem Rl.lst_at {K : PySem.W.Frag} {mg : Str → Option Value} {β : List Addr} {H : Hp} {S : Sto} {n : Nat} {a : Addr} {ds : List D} (r : Rl K mg β H S) (h : β[n]? = some a) (hs : S[n]? = some (.lst ds)) : ∃ xs, H a = some (.lst xs) ∧ Vds K mg β H xs ds := r.at' n a _ h hs
theorem op2_add : Op2 X (rAddAll X) fAdd := by
  intro β H S x y v u d S' Q r hx hy e k
  cases x <;> cases y <;> first | (cases e; done) | skip
  · rename_i i j
    cases hx; cases hy; cases e
    exact .inl (.inl ⟨i, j, rfl, rfl, k β H _ .refl r (.int _)⟩)
  · rename_i i j
    cases hx; cases hy
    unfold fAdd at e
    dsimp only at e
    split at e
    · rename_i h
      cases e
      exact .inl (.inr ⟨i, j, rfl, rfl, h, k β H _ .refl r (.str _)⟩)
    · cases e
  · rename_i xs ys
    obtain ⟨p, vs, rfl, h1, h2⟩ := hx.tup_at
    obtain ⟨q, us, rfl, h3, h4⟩ := hy.tup_at
    unfold fAdd at e
    dsimp only at e
    split at e
    · rename_i h
      cases e
      refine .inr (.inl ⟨p, q, vs, us, rfl, rfl, .of h1, .of h3, by rw [h2.length, h4.length]; exact h, fun z => ?_, fun z z2 => ?_, fun _ _ p' hp' => ?_⟩)
      · subst z
        cases h2
        exact k β H _ .refl r (.tup h3 h4)
      · subst z2
        cases h4
        rw [List.append_nil] at k
        exact k β H _ .refl r (.tup h1 h2)
      · exact k β _ _ (xt_new' hp') (r.tup hp') (.tup upd_same ((h2.append h4).ext (xt_new' hp')))
    · cases e
  · rename_i n m
    obtain ⟨p, rfl, h1⟩ := hx.ref_inv
    obtain ⟨q, rfl, h2⟩ := hy.ref_inv
    unfold fAdd at e
    dsimp only at e
    split at e
    · rename_i xs ys e1 e2
      split at e
      · rename_i h
        cases e
        obtain ⟨vs, h3, h4⟩ := r.lst_at h1 e1
        obtain ⟨us, h5, h6⟩ := r.lst_at h2 e2
        refine .inr (.inr ⟨p, q, vs, us, rfl, rfl, h3, h5, by rw [h4.length, h6.length]; exact h, fun p' hp' => ?_⟩)
        obtain ⟨x1, r1, v1⟩ := r.newL (h4.append h6) hp'
        exact k _ _ _ x1 r1 v1
      · cases e
    · cases e
theorem me_add (ha : ME X W a ma) (hb : ME X W b mb) : ME X W (.BinOp a .Add b pos) (mBin fAdd ma mb) := me_bin op_addAll op2_add ha hb
/-! ### order of whole numbers -/
def fLt : F2 := fI cT fun i j => .bl (decide (i < j))
def fLe : F2 := fI cT fun i j => .bl (decide (i ≤ j))
def fGt : F2 := fI cT fun i j => .bl (decide (j < i))
def fGe : F2 := fI cT fun i j => .bl (decide (j ≤ i))
theorem o_lt : Op2 X (rI0 fun i j => .bl (decide (i < j))) fLt := op2_I0 fun _ _ _ _ => .bl _
theorem o_le : Op2 X (rI0 fun i j => .bl (decide (i ≤ j))) fLe := op2_I0 fun _ _ _ _ => .bl _
theorem o_gt : Op2 X (rI0 fun i j => .bl (decide (j < i))) fGt := op2_I0 fun _ _ _ _ => .bl _
theorem o_ge : Op2 X (rI0 fun i j => .bl (decide (j ≤ i))) fGe := op2_I0 fun _ _ _ _ => .bl _
/-! ### is None, is True, is False -/
def rIsA : R2 := fun x y H Q => (y = .non ∧ Q (.bl (decide (x = .non))) H) ∨ (∃ a b, x = .bl a ∧ y = .bl b ∧ Q (.bl (decide (a = b))) H)
def rIsNA : R2 := fun x y H Q => (y = .non ∧ Q (.bl (!decide (x = .non))) H) ∨ (∃ a b, x = .bl a ∧ y = .bl b ∧ Q (.bl (!decide (a = b))) H)
def isNon : D → Bool
  | .non => true
  | _ => false
def fIs : F2
  | x, .non, S => some (.bl (isNon x), S)
  | .bl a, .bl b, S => some (.bl (decide (a = b)), S)
  | _, _, _ => none
def fIsN : F2
  | x, .non, S => some (.bl (!isNon x), S)
  | .bl a, .bl b, S => some (.bl (!decide (a = b)), S)
  | _, _, _ => none
theorem isNon_of {K : PySem.W.Frag} {mg : Str → Option Value} {β : List Addr} {H : Hp} {v : V} {d : D} (h : Vd K mg β H v d) : decide (v = .non) = isNon d := by cases h <;> rfl
theorem op_isA : OpR X (compareOp .Is) rIsA := OpR.or op_isN op_is_bl
theorem op_isNA : OpR X (compareOp .IsNot) rIsNA := OpR.or op_notN op_isnot_bl
theorem o_is : Op2 X rIsA fIs := by
  intro β H S x y v u d S' Q r hx hy e k
  cases y
  · cases hy
    have e' : some (D.bl (isNon x), S) = some (d, S') := by
      rw [← e]
      cases x <;> rfl
    cases e'
    exact .inl ⟨rfl, by rw [isNon_of hx]; exact k β H _ .refl r (.bl _)⟩
  · cases x <;> first | (cases e; done) | skip
    cases hx; cases hy; cases e
    exact .inr ⟨_, _, rfl, rfl, k β H _ .refl r (.bl _)⟩
  all_goals (cases x <;> cases e)
theorem o_isN : Op2 X rIsNA fIsN := by
  intro β H S x y v u d S' Q r hx hy e k
  cases y
  · cases hy
    have e' : some (D.bl (!isNon x), S) = some (d, S') := by
      rw [← e]
      cases x <;> rfl
    cases e'
    exact .inl ⟨rfl, by rw [isNon_of hx]; exact k β H _ .refl r (.bl _)⟩
  · cases x <;> first | (cases e; done) | skip
    cases hx; cases hy; cases e
    exact .inr ⟨_, _, rfl, rfl, k β H _ .refl r (.bl _)⟩
  all_goals (cases x <;> cases e)
/-! ### ==, != : data of any depth -/
mutual
def toPy (S : Sto) : Nat → D → Option PyData
  | _, .non => some .none
  | _, .bl b => some (.bool b)
  | _, .int i => some (.int i)
  | _, .str x => some (.str x)
  | 0, .tup _ => none
  | n + 1, .tup ds => (toPys S n ds).map .tuple
  | 0, .ref _ => none
  | n + 1, .ref m => match lstAt S m with
    | some ds => (toPys S n ds).map .list
    | none => none
  | _, _ => none
def toPys (S : Sto) : Nat → List D → Option (List PyData)
  | _, [] => some []
  | n, d :: ds => match toPy S n d, toPys S n ds with
    | some p, some ps => some (p :: ps)
    | _, _ => none
end
end
section
variable {K : PySem.W.Frag} {mg : Str → Option Value} {β : List Addr} {H : Hp} {S : Sto}
mutual
theorem toPy_ok (r : Rl K mg β H S) : ∀ (n : Nat) (d : D) (v : V) (p : PyData), Vd K mg β H v d → toPy S n d = some p → Dp K H v p
  | n, .non, _, _, .non, e => by
    unfold toPy at e; cases e; exact .non
  | n, .bl b, _, _, .bl _, e => by
    unfold toPy at e; cases e; exact .bl b
  | n, .int i, _, _, .int _, e => by
    unfold toPy at e; cases e; exact .int i
  | n, .str x, _, _, .str _, e => by
    unfold toPy at e; cases e; exact .str x
  | 0, .tup ds, _, _, _, e => by unfold toPy at e; cases e
  | n + 1, .tup ds, _, _, .tup h1 h2, e => by
    unfold toPy at e
    cases q : toPys S n ds with
    | none => rw [q] at e; cases e
    | some ps => rw [q] at e; cases e; exact .tup (.of h1) (toPys_ok r n ds _ ps h2 q)
  | 0, .ref m, _, _, _, e => by unfold toPy at e; cases e
  | n + 1, .ref m, _, _, .ref h1, e => by
    unfold toPy at e
    cases q : lstAt S m with
    | none => rw [q] at e; cases e
    | some ds =>
      rw [q] at e
      dsimp only at e
      obtain ⟨vs, h3, h4⟩ := lst_read r h1 q
      cases q2 : toPys S n ds with
      | none => rw [q2] at e; cases e
      | some ps => rw [q2] at e; cases e; exact .lst h3 (toPys_ok r n ds _ ps h4 q2)
  | n, .ty _, _, _, _, e => by unfold toPy at e; cases e
  | n, .gl _, _, _, _, e => by unfold toPy at e; cases e
theorem toPys_ok (r : Rl K mg β H S) : ∀ (n : Nat) (ds : List D) (vs : List V) (ps : List PyData), Vds K mg β H vs ds → toPys S n ds = some ps → DpAll K H vs ps
  | n, [], _, _, .nil, e => by
    unfold toPys at e; cases e; exact .nil
  | n, d :: ds, _, _, .cons h t, e => by
    unfold toPys at e
    cases q1 : toPy S n d with
    | none => rw [q1] at e; cases e
    | some p =>
      cases q2 : toPys S n ds with
      | none => rw [q1, q2] at e; cases e
      | some ps =>
        rw [q1, q2] at e
        cases e
        exact .cons (toPy_ok r n d _ p h q1) (toPys_ok r n ds _ ps t q2)
end
end

/-- pairs of scalars that are told apart at once -/
def scalEq : D → D → Option Bool
  | .non, .non => some true
  | .int i, .int j => some (decide (i = j))
  | .bl a, .bl b => some (decide (a = b))
  | .str a, .str b => some (decide (a = b))
  | .non, .int _ => some false | .int _, .non => some false
  | .non, .bl _ => some false | .bl _, .non => some false
  | .non, .str _ => some false | .str _, .non => some false
  | .int _, .str _ => some false | .str _, .int _ => some false
  | .bl _, .str _ => some false | .str _, .bl _ => some false
  | _, _ => none
def deepEq (S : Sto) (x y : D) : Option Bool := match toPy S 64 x, toPy S 64 y with
  | some p, some q => if (SeqAt.shaped p && SeqAt.shaped q) = true then some (PyData.eqv p q) else none
  | _, _ => none
def eqD (S : Sto) (x y : D) : Option Bool := match scalEq x y with
  | some b => some b
  | none => deepEq S x y
def fEq : F2 := fun x y S => (eqD S x y).map fun b => (.bl b, S)
def fNe : F2 := fun x y S => (eqD S x y).map fun b => (.bl (!b), S)
def rEqA (X : Cx) : R2 := fun x y H Q => rEq x y H Q ∨ rEqD X.K x y H Q
def rNeA (X : Cx) : R2 := fun x y H Q => rNe x y H Q ∨ rNeD X.K x y H Q
theorem scalEq_ok {K : PySem.W.Frag} {mg : Str → Option Value} {β : List Addr} {H : Hp} {v u : V} {x y : D} {b : Bool} (hx : Vd K mg β H v x) (hy : Vd K mg β H u y) (e : scalEq x y = some b) : scal v u = true ∧ decide (v = u) = b := by
  cases hx <;> cases hy <;> first | (cases e; done) | skip
  all_goals (first
    | (cases e; exact ⟨rfl, rfl⟩)
    | (have e' := Option.some.inj e; rw [← e']; refine ⟨rfl, ?_⟩; simp))
theorem deepEq_ok {K : PySem.W.Frag} {mg : Str → Option Value} {β : List Addr} {H : Hp} {S : Sto} {v u : V} {x y : D} {b : Bool} (r : Rl K mg β H S) (hx : Vd K mg β H v x) (hy : Vd K mg β H u y) (e : deepEq S x y = some b) :
    ∃ d e, Dp K H v d ∧ Dp K H u e ∧ SeqAt.shaped d = true ∧ SeqAt.shaped e = true ∧ PyData.eqv d e = b := by
  unfold deepEq at e
  cases q1 : toPy S 64 x with
  | none => rw [q1] at e; cases e
  | some p =>
    cases q2 : toPy S 64 y with
    | none => rw [q1, q2] at e; cases e
    | some q =>
      rw [q1, q2] at e
      dsimp only at e
      split at e
      · rename_i hs
        rw [Bool.and_eq_true] at hs
        exact ⟨p, q, toPy_ok r 64 x v p hx q1, toPy_ok r 64 y u q hy q2, hs.1, hs.2, Option.some.inj e⟩
      · cases e
section
variable {X : Cx} {W : WX} {a b c : Expr} {ma mb mc : Mx} {pos : Pos}
theorem o_eq : Op2 X (rEqA X) fEq := by
  intro β H S x y v u d S' Q r hx hy e k
  unfold fEq eqD at e
  cases q : scalEq x y with
  | some t =>
    rw [q] at e
    cases e
    obtain ⟨h1, h2⟩ := scalEq_ok hx hy q
    exact .inl ⟨h1, by rw [h2]; exact k β H _ .refl r (.bl _)⟩
  | none =>
    rw [q] at e
    dsimp only at e
    cases q2 : deepEq S x y with
    | none => rw [q2] at e; cases e
    | some t =>
      rw [q2] at e
      cases e
      obtain ⟨p, p', h1, h2, h3, h4, h5⟩ := deepEq_ok r hx hy q2
      exact .inr ⟨p, p', h1, h2, h3, h4, by rw [h5]; exact k β H _ .refl r (.bl _)⟩
theorem o_ne : Op2 X (rNeA X) fNe := by
  intro β H S x y v u d S' Q r hx hy e k
  unfold fNe eqD at e
  cases q : scalEq x y with
  | some t =>
    rw [q] at e
    cases e
    obtain ⟨h1, h2⟩ := scalEq_ok hx hy q
    exact .inl ⟨h1, by rw [h2]; exact k β H _ .refl r (.bl _)⟩
  | none =>
    rw [q] at e
    dsimp only at e
    cases q2 : deepEq S x y with
    | none => rw [q2] at e; cases e
    | some t =>
      rw [q2] at e
      cases e
      obtain ⟨p, p', h1, h2, h3, h4, h5⟩ := deepEq_ok r hx hy q2
      exact .inr ⟨p, p', h1, h2, h3, h4, by rw [h5]; exact k β H _ .refl r (.bl _)⟩
theorem op_eqA {k : Nat} (hr : Room k X.A) : OpR X (compareOp .Eq) (rEqA X) := OpR.or op_eq (op_eqD hr.units)
theorem op_neA {k : Nat} (hr : Room k X.A) : OpR X (compareOp .NotEq) (rNeA X) := OpR.or op_ne (op_neD hr.units)

/-! ### subscripts -/
def fIx : F2
  | .tup xs, .int i, S => (atI xs i).map fun d => (d, S)
  | .ref n, .int i, S => match lstAt S n with
    | some xs => (atI xs i).map fun d => (d, S)
    | none => none
  | .str z, .int i, S => if z.length ≤ sizeLine then (atI z.cps.toList i).map fun c => (.str ⟨#[c]⟩, S) else none
  | _, _, _ => none
theorem atI_vds {K : PySem.W.Frag} {mg : Str → Option Value} {β : List Addr} {H : Hp} {vs : List V} {ds : List D} {i : Int} {d : D} (h : Vds K mg β H vs ds) (e : atI ds i = some d) : ∃ v, atI vs i = some v ∧ Vd K mg β H v d := by
  unfold atI at e ⊢
  rw [h.length]
  cases q : ixN ds.length i with
  | none => rw [q] at e; cases e
  | some j =>
    rw [q] at e
    exact h.get e
theorem o_ix : Op2 X (rIx X.K) fIx := by
  intro β H S x y v u d S' Q r hx hy e k
  cases y <;> (cases x <;> first | (cases e; done) | skip)
  · rename_i i z
    cases hx; cases hy
    unfold fIx at e
    dsimp only at e
    split at e
    · rename_i hz
      cases q : atI z.cps.toList i with
      | none => rw [q] at e; cases e
      | some c =>
        rw [q] at e
        cases e
        exact .inr (.inr ⟨z, i, c, rfl, rfl, hz, q, k β H _ .refl r (.str _)⟩)
    · cases e
  · rename_i i xs
    cases hy
    obtain ⟨p, vs, rfl, h1, h2⟩ := hx.tup_inv
    have e' : (atI xs i).map (fun d => (d, S)) = some (d, S') := e
    cases q : atI xs i with
    | none => rw [q] at e'; cases e'
    | some c =>
      rw [q] at e'
      cases e'
      obtain ⟨w, h3, h4⟩ := atI_vds h2 q
      exact .inr (.inl ⟨p, vs, i, w, rfl, rfl, h1, h3, k β H _ .refl r h4⟩)
  · rename_i i n
    cases hy
    obtain ⟨p, rfl, h1⟩ := hx.ref_inv
    unfold fIx at e
    dsimp only at e
    cases q : lstAt S n with
    | none => rw [q] at e; cases e
    | some xs =>
      rw [q] at e
      dsimp only at e
      cases q2 : atI xs i with
      | none => rw [q2] at e; cases e
      | some c =>
        rw [q2] at e
        cases e
        obtain ⟨vs, h3, h4⟩ := lst_read r h1 q
        obtain ⟨w, h5, h6⟩ := atI_vds h4 q2
        exact .inl ⟨p, vs, i, w, rfl, rfl, h3, h5, k β H _ .refl r h6⟩
theorem me_ix (ha : ME X W a ma) (hb : ME X W b mb) (hs : PlainIx b := by exact fun _ _ => rfl) : ME X W (.Subscript a b pos) (mBin fIx ma mb) :=
  ⟨PE.weak (pe_ix ix_seq ha.pe hb.pe hs) fun _ _ _ h => two_of o_ix h⟩
/-! ### slices -/
abbrev Mo := Env' → Sto → R (Option Int)
def tMO (K : PySem.W.Frag) (mg : Str → Option Value) (W : WX) (m : Mo) : TO := fun σ H Q => ∃ β S ρ, Rl K mg β H S ∧ En K mg β H ρ σ ∧ Po K mg W σ β H (m ρ S) fun o _ _ H' => Q o H'
structure MO (X : Cx) (W : WX) (o : Option Expr) (m : Mo) : Prop where
  po : PO X o (tMO X.K X.mg W m)
theorem PO.weak {X : Cx} {e : Option Expr} {t t' : TO} (h : PO X e t) (i : ∀ σ H Q, t' σ H Q → t σ H Q) : PO X e t' := ⟨fun pins s σ H Q I q => h.run pins s σ H Q I (i σ H Q q)⟩
def mO0 : Mo := fun _ S => .ok none S
def mO1 (m : Mx) : Mo := fun ρ S => (m ρ S).bind fun d S1 => match d with
  | .int i => .ok (some i) S1
  | _ => .stuck
theorem mo_none : MO X W none mO0 := ⟨PO.weak po_none fun σ H Q ⟨β, S, ρ, rl, en, p⟩ => p β H .refl rl⟩
theorem mo_some (ha : ME X W a ma) : MO X W (some a) (mO1 ma) := by
  refine ⟨PO.weak (po_some ha.pe) fun σ H Q ⟨β, S, ρ, rl, en, p⟩ => ?_⟩
  refine ⟨β, S, ρ, rl, en, (show Po X.K X.mg W σ β H ((ma ρ S).bind _) _ from p).bind.mono fun d β1 S1 H1 x1 r1 q v hv => ?_⟩
  cases d with
  | int i => cases hv; exact ⟨i, rfl, q β1 H1 .refl r1⟩
  | _ => exact q.elim
def cutD {α : Type} (xs : List α) (lo hi : Option Int) : List α := (xs.drop (HT.sIx xs.length 0 lo)).take (HT.sIx xs.length xs.length hi - HT.sIx xs.length 0 lo)
def slD (d : D) (lo hi : Option Int) (S : Sto) : R D := match d with
  | .str z => if z.length ≤ sizeLine then .ok (.str (cutS z lo hi)) S else .stuck
  | .tup xs => .ok (.tup (cutD xs lo hi)) S
  | .ref n => match lstAt S n with
    | some xs => .ok (.ref S.length) (S ++ [.lst (cutD xs lo hi)])
    | none => .stuck
  | _ => .stuck
def mSl (m : Mx) (ml mh : Mo) : Mx := fun ρ S => (m ρ S).bind fun d S1 => (ml ρ S1).bind fun lo S2 => (mh ρ S2).bind fun hi S3 => slD d lo hi S3
def rSlAll (K : PySem.W.Frag) : V → Option Int → Option Int → Hp → VK → Prop := fun x lo hi H Q => (rSlS x lo hi H Q ∨ L2.rSlA K x lo hi H Q) ∨ rSlL K x lo hi H Q
theorem cut_vds {K : PySem.W.Frag} {mg : Str → Option Value} {β : List Addr} {H : Hp} {vs : List V} {ds : List D} (h : Vds K mg β H vs ds) (lo hi : Option Int) : Vds K mg β H (cutV vs lo hi) (cutD ds lo hi) := by
  unfold cutV cutD
  rw [h.length]
  exact (h.drop _).take _
theorem me_slice {lo hi : Option Expr} {p2 : Pos} {ml mh : Mo} (ha : ME X W a ma) (hl : MO X W lo ml) (hh : MO X W hi mh) : ME X W (.Subscript a (.Slice lo hi none p2) pos) (mSl ma ml mh) := by
  refine ⟨PE.weak (pe_slice (r := rSlAll X.K) (SlR.or (SlR.or sl_str sl_tupA) sl_list) ha.pe hl.po hh.po) fun σ H Q ⟨β, S, ρ, rl, en, p⟩ => ?_⟩
  refine ⟨β, S, ρ, rl, en, p.bind.mono fun d β1 S1 H1 x1 r1 q v hv => ⟨β1, S1, ρ, r1, en.ext x1, q.bind.mono fun l β2 S2 H2 x2 r2 q2 => ⟨β2, S2, ρ, r2, en.ext (x1.trans x2), q2.bind.mono fun h β3 S3 H3 x3 r3 q3 => ?_⟩⟩⟩
  have hv3 := hv.ext (x2.trans x3)
  cases d with
  | str z =>
    cases hv3
    unfold slD at q3
    dsimp only at q3
    split at q3
    · rename_i hz
      exact .inl (.inl ⟨z, rfl, hz, q3 β3 H3 .refl r3 _ (.str _)⟩)
    · exact q3.elim
  | tup xs =>
    obtain ⟨p, vs, rfl, h1, h2⟩ := hv3.tup_at
    refine .inl (.inr ⟨p, vs, rfl, .of h1, fun hw => ?_, fun hw p' hp' => ?_⟩)
    · have e : cutD xs l h = xs := by
        rw [h2.length] at hw
        unfold cutD
        rw [hw.1, hw.2, List.drop_zero, Nat.sub_zero, List.take_length]
      refine q3 β3 H3 .refl r3 _ ?_
      rw [e]
      exact .tup h1 h2
    · exact q3 β3 _ (xt_new' hp') (r3.tup hp') _ (.tup upd_same ((cut_vds h2 l h).ext (xt_new' hp')))
  | ref n =>
    obtain ⟨p, rfl, h1⟩ := hv3.ref_inv
    unfold slD at q3
    dsimp only at q3
    cases e : lstAt S3 n with
    | none => rw [e] at q3; exact q3.elim
    | some xs =>
      rw [e] at q3
      obtain ⟨vs, h2, h3⟩ := lst_read r3 h1 e
      refine .inr ⟨p, vs, rfl, h2, fun p' hp' => ?_⟩
      obtain ⟨x4, r4, v4⟩ := r3.newL (cut_vds h3 l h) hp'
      exact q3 _ _ x4 r4 _ v4
  | _ => exact q3.elim
end
end Eng

/-! The engine, part 3: statements, loops, defs and their calls. -/
namespace Eng
open PySem PySem.Spec PyProof.Rows L2
variable [TabCfg]

inductive Fl where
  | nx (ρ : Env')
  | rt (d : D)
inductive RS where
  | fl (f : Fl) (S : Sto)
  | ex (x : Exn) (ρ : Env') (S : Sto)
  | stuck
abbrev Ms := Env' → Sto → RS
def R.st {α : Type} (r : R α) (ρ : Env') (k : α → Sto → RS) : RS := match r with
  | .ok a S => k a S
  | .ex x S => .ex x ρ S
  | .stuck => .stuck
section
variable (K : PySem.W.Frag) (mg : Str → Option Value)
def PoS (W : WX) (β : List Addr) (H : Hp) (r : RS) (D : Ends) : Prop := match r with
  | .fl (.nx ρ) S => ∀ β' H' σ', Xt K β H β' H' → Rl K mg β' H' S → En K mg β' H' ρ σ' → D.nx σ' H'
  | .fl (.rt d) S => ∀ β' H' v, Xt K β H β' H' → Rl K mg β' H' S → Vd K mg β' H' v d → D.rt v H'
  | .ex x ρ S => ∀ cls od β' H' σ', Xt K β H β' H' → Rl K mg β' H' S → En K mg β' H' ρ σ' → Xd K mg β' H' cls od x → W cls od σ' H'
  | .stuck => False
def tMS (W : WX) (m : Ms) : TS := fun D σ H => ∃ β S ρ, Rl K mg β H S ∧ En K mg β H ρ σ ∧ PoS K mg W β H (m ρ S) D
end
section
variable {K : PySem.W.Frag} {mg : Str → Option Value} {W : WX} {σ : L2.St} {β β1 : List Addr} {H H1 : Hp} {α : Type} {ρ : Env'} {Z Z' : Ends}
theorem PoS.xt {r : RS} (h : PoS K mg W β H r Z) (x : Xt K β H β1 H1) : PoS K mg W β1 H1 r Z := by
  cases r with
  | fl f S =>
    cases f with
    | nx ρ => exact fun β' H' σ' y => h β' H' σ' (x.trans y)
    | rt d => exact fun β' H' v y => h β' H' v (x.trans y)
  | ex e ρ S => exact fun cls od β' H' σ' y => h cls od β' H' σ' (x.trans y)
  | stuck => exact h
/-- the same outcome towards other ends -/
theorem PoS.to {r : RS} (h : PoS K mg W β H r Z) (hn : ∀ ρ S, r = .fl (.nx ρ) S → ∀ β' H' σ', Xt K β H β' H' → Rl K mg β' H' S → En K mg β' H' ρ σ' → Z'.nx σ' H') (hr : Z'.rt = Z.rt) : PoS K mg W β H r Z' := by
  cases r with
  | fl f S =>
    cases f with
    | nx ρ => exact hn ρ S rfl
    | rt d => exact fun β' H' v y r q => by rw [hr]; exact h β' H' v y r q
  | ex e ρ S => exact h
  | stuck => exact h
theorem PoS.st {r : R α} {k : α → Sto → RS} (h : PoS K mg W β H (r.st ρ k) Z) (en : En K mg β H ρ σ) : Po K mg W σ β H r fun d β' S H' => PoS K mg W β' H' (k d S) Z := by
  cases r with
  | ok d S => exact fun β' H' y r => PoS.xt (show PoS K mg W β H (k d S) Z from h) y
  | ex e S => exact fun cls od β' H' y r q => h cls od β' H' σ y r (en.ext y) q
  | stuck => exact h
theorem En.set (e : En K mg β H ρ σ) (i : Nat) {v : V} {d : D} (h : Vd K mg β H v d) : En K mg β H (ρ.set i (some d)) (σ.set i (some v)) := by
  refine ⟨by rw [List.length_set, List.length_set]; exact e.len, fun j d' q => ?_⟩
  by_cases hj : i = j
  · subst hj
    by_cases hl : i < ρ.length
    · rw [List.getElem?_set_self hl] at q
      cases q
      exact ⟨v, by rw [List.getElem?_set_self (by rw [← e.len]; exact hl)], h⟩
    · rw [List.getElem?_eq_none (by rw [List.length_set]; omega)] at q
      cases q
  · rw [List.getElem?_set_ne hj] at q ⊢
    exact e.at' j d' q
end
structure MS (X : Cx) (W : WX) (s : Stmt) (m : Ms) : Prop where
  ps : PS X s (tMS X.K X.mg W m)
structure MSs (X : Cx) (W : WX) (s : List Stmt) (m : Ms) : Prop where
  ps : PSs X s (tMS X.K X.mg W m)
theorem PS.weak {X : Cx} {e : Stmt} {t t' : TS} (h : PS X e t) (i : ∀ D σ H, t' D σ H → t D σ H) : PS X e t' := ⟨fun pins s σ H D I q => h.run pins s σ H D I (i D σ H q)⟩
theorem PSs.weak {X : Cx} {e : List Stmt} {t t' : TS} (h : PSs X e t) (i : ∀ D σ H, t' D σ H → t D σ H) : PSs X e t' := ⟨fun pins s σ H D I q => h.run pins s σ H D I (i D σ H q)⟩

def sSkip : Ms := fun ρ S => .fl (.nx ρ) S
def sSeq (a b : Ms) : Ms := fun ρ S => match a ρ S with
  | .fl (.nx ρ') S' => b ρ' S'
  | r => r
def sExpr (m : Mx) : Ms := fun ρ S => (m ρ S).st ρ fun _ S1 => .fl (.nx ρ) S1
def sRet (m : Mx) : Ms := fun ρ S => (m ρ S).st ρ fun d S1 => .fl (.rt d) S1
def sRetN : Ms := fun ρ S => .fl (.rt .non) S
def sIf (c : Mb) (a b : Ms) : Ms := fun ρ S => (c ρ S).st ρ fun k S1 => if k = true then a ρ S1 else b ρ S1
def sAsg (i : Nat) (m : Mx) : Ms := fun ρ S => (m ρ S).st ρ fun d S1 => .fl (.nx (ρ.set i (some d))) S1
section
variable {X : Cx} {W : WX} {st : Stmt} {rest : List Stmt} {a b : Ms} {e c : Expr} {m : Mx} {mc : Mb} {pos : Pos}
theorem ms_nil : MSs X W [] sSkip := ⟨PSs.weak pss_nil fun D σ H ⟨β, S, ρ, rl, en, p⟩ => p β H σ .refl rl en⟩
theorem ms_one (h : MS X W st a) : MSs X W [st] a := ⟨pss_one h.ps⟩
theorem ms_cons (h1 : MS X W st a) (h2 : MSs X W rest b) : MSs X W (st :: rest) (sSeq a b) := by
  refine ⟨PSs.weak (pss_cons h1.ps h2.ps) fun D σ H ⟨β, S, ρ, rl, en, p⟩ => ⟨β, S, ρ, rl, en, ?_⟩⟩
  unfold sSeq at p
  cases q : a ρ S with
  | fl f S1 =>
    rw [q] at p
    cases f with
    | nx ρ1 => exact fun β' H' σ' x r en' => ⟨β', S1, ρ1, r, en', p.xt x⟩
    | rt d => exact p
  | ex x ρ1 S1 => rw [q] at p; exact p
  | stuck => rw [q] at p; exact p
theorem ms_pass : MS X W (.Pass pos) sSkip := ⟨PS.weak ps_pass fun D σ H ⟨β, S, ρ, rl, en, p⟩ => p β H σ .refl rl en⟩
theorem ms_doc {x j pos'} : MS X W (.Expr (.Constant (.str x) j pos) pos') sSkip := ⟨PS.weak ps_doc fun D σ H ⟨β, S, ρ, rl, en, p⟩ => p β H σ .refl rl en⟩
theorem ms_expr (h : ME X W e m) (hs : swapsWith e none pos.line X.env = pure false := by rfl) : MS X W (.Expr e pos) (sExpr m) := by
  refine ⟨PS.weak (ps_expr h.pe hs) fun D σ H ⟨β, S, ρ, rl, en, p⟩ => ⟨β, S, ρ, rl, en, (p.st en).mono fun d β1 S1 H1 x1 r1 q v hv => ?_⟩⟩
  exact q β1 H1 σ .refl r1 (en.ext x1)
theorem ms_ret (h : ME X W e m) : MS X W (.Return (some e) pos) (sRet m) := by
  refine ⟨PS.weak (ps_ret h.pe) fun D σ H ⟨β, S, ρ, rl, en, p⟩ => ⟨β, S, ρ, rl, en, (p.st en).mono fun d β1 S1 H1 x1 r1 q v hv => ?_⟩⟩
  exact q β1 H1 v .refl r1 hv
theorem ms_retN : MS X W (.Return none pos) sRetN := ⟨PS.weak ps_retN fun D σ H ⟨β, S, ρ, rl, en, p⟩ => p β H .non .refl rl .non⟩
theorem ms_if {p q : List Stmt} (hc : MT X W c mc) (ha : MSs X W p a) (hb : MSs X W q b) : MS X W (.If c p q pos) (sIf mc a b) := by
  refine ⟨PS.weak (ps_if hc.pt ha.ps hb.ps) fun D σ H ⟨β, S, ρ, rl, en, p⟩ => ⟨β, S, ρ, rl, en, (p.st en).mono fun k β1 S1 H1 x1 r1 q => ?_⟩⟩
  cases k with
  | true => rw [if_pos rfl] at q ⊢; exact ⟨β1, S1, ρ, r1, en.ext x1, q⟩
  | false => rw [if_neg Bool.false_ne_true] at q ⊢; exact ⟨β1, S1, ρ, r1, en.ext x1, q⟩
theorem asg_of {i : Nat} {D : Ends} {σ : L2.St} {H : Hp} (h : tMS X.K X.mg W (sAsg i m) D σ H) : tM X.K X.mg W m σ H fun x H1 => D.nx (σ.set i (some x)) H1 := by
  obtain ⟨β, S, ρ, rl, en, p⟩ := h
  exact ⟨β, S, ρ, rl, en, (p.st en).mono fun d β1 S1 H1 x1 r1 q v hv => q β1 H1 _ .refl r1 ((en.ext x1).set i hv)⟩
theorem ms_asg {i : Nat} {x : Str} {pos' : Pos} (hN : X.N.Nodup) (he : ME X W e m) (hi : X.N[i]? = some x := by rfl) (hx : Loc X.env.scope x := by first | exact .inl rfl | exact .inr rfl) (hs : swapsWith e (some (.Name x pos')) pos.line X.env = pure false := by rfl)
    (hf : X.fn x = true ∨ X.env.scope.names.lookup x = some .local := by first | exact .inl rfl | exact .inr rfl) : MS X W (.Assign [.Name x pos'] e pos) (sAsg i m) :=
  ⟨PS.weak (ps_set (i := i) hN hi hx he.pe hs hf) fun _ _ _ h => asg_of h⟩
/-! ### while -/
def whileF (c : Mb) (b : Ms) : Nat → Ms
  | 0, _, _ => .stuck
  | n + 1, ρ, S => (c ρ S).st ρ fun k S1 => if k = true then (match b ρ S1 with
      | .fl (.nx ρ') S2 => whileF c b n ρ' S2
      | r => r) else .fl (.nx ρ) S1
theorem whileF_more {c : Mb} {b : Ms} : ∀ {n : Nat} {ρ : Env'} {S : Sto}, whileF c b n ρ S ≠ .stuck → whileF c b (n + 1) ρ S = whileF c b n ρ S
  | 0, _, _, h => absurd rfl h
  | n + 1, ρ, S, h => by
    unfold whileF at h
    rw [whileF, whileF]
    cases q : c ρ S with
    | ok k S1 =>
      rw [q] at h
      cases k with
      | false => rfl
      | true =>
        cases q2 : b ρ S1 with
        | fl f S2 =>
          cases f with
          | nx ρ' =>
            simp only [R.st, if_true, q2] at h ⊢
            exact whileF_more h
          | rt d => simp only [R.st, if_true, q2]
        | ex x ρ' S2 => simp only [R.st, if_true, q2]
        | stuck => simp only [R.st, if_true, q2]
    | ex x S1 => rfl
    | stuck => rfl
theorem whileF_le {c : Mb} {b : Ms} {n m : Nat} {ρ : Env'} {S : Sto} (h : whileF c b n ρ S ≠ .stuck) (hm : n ≤ m) : whileF c b m ρ S = whileF c b n ρ S := by
  induction hm with
  | refl => rfl
  | step hk ih => rw [whileF_more (by rw [ih]; exact h), ih]
open Classical in
noncomputable def sWhile (c : Mb) (b : Ms) : Ms := fun ρ S => if h : ∃ n, whileF c b n ρ S ≠ .stuck then whileF c b h.choose ρ S else .stuck
theorem sWhile_eq {c : Mb} {b : Ms} {n : Nat} {ρ : Env'} {S : Sto} {r : RS} (h : whileF c b n ρ S = r) (hr : r ≠ .stuck) : sWhile c b ρ S = r := by
  have hn : whileF c b n ρ S ≠ .stuck := by rw [h]; exact hr
  have he : ∃ n, whileF c b n ρ S ≠ .stuck := ⟨n, hn⟩
  unfold sWhile
  rw [dif_pos he, ← h]
  rcases Nat.le_total n he.choose with q | q
  · exact whileF_le hn q
  · exact (whileF_le he.choose_spec q).symm
theorem sWhile_fuel {K : PySem.W.Frag} {mg : Str → Option Value} {β : List Addr} {H : Hp} {D : Ends} {c : Mb} {b : Ms} {ρ : Env'} {S : Sto} (h : PoS K mg W β H (sWhile c b ρ S) D) : ∃ n, PoS K mg W β H (whileF c b n ρ S) D := by
  unfold sWhile at h
  split at h
  · exact ⟨_, h⟩
  · exact h.elim
theorem ms_while {body : List Stmt} (hp : PassesOwn (model X.prog X.w) X.A X.env X.xe) (hc : MT X W c mc) (hb : MSs X W body b) : MS X W (.While c body [] pos) (sWhile mc b) := by
  refine ⟨PS.weak (ps_while hp hc.pt hb.ps) fun D σ H ⟨β, S, ρ, rl, en, p⟩ => ?_⟩
  obtain ⟨n, p⟩ := sWhile_fuel p
  refine ⟨fun m σ H => ∃ β S ρ, Rl X.K X.mg β H S ∧ En X.K X.mg β H ρ σ ∧ PoS X.K X.mg W β H (whileF mc b m ρ S) D, ⟨n, β, S, ρ, rl, en, p⟩, ?_⟩
  rintro m σ H ⟨β, S, ρ, rl, en, p⟩
  cases m with
  | zero => exact p.elim
  | succ k =>
    unfold whileF at p
    refine ⟨β, S, ρ, rl, en, (p.st en).mono fun t β1 S1 H1 x1 r1 q => ?_⟩
    cases t with
    | false => rw [if_neg Bool.false_ne_true] at q ⊢; exact q β1 H1 σ .refl r1 (en.ext x1)
    | true =>
      rw [if_pos rfl] at q ⊢
      refine ⟨fun σ H => ∃ β S ρ, Rl X.K X.mg β H S ∧ En X.K X.mg β H ρ σ ∧ PoS X.K X.mg W β H (whileF mc b k ρ S) D, fun σ' H' w => ⟨k, Nat.lt_succ_self k, w⟩, β1, S1, ρ, r1, en.ext x1, ?_⟩
      cases e : b ρ S1 with
      | fl f S2 =>
        rw [e] at q
        cases f with
        | nx ρ' => exact fun β' H' σ' x r en' => ⟨β', S2, ρ', r, en', PoS.xt q x⟩
        | rt d => exact q
      | ex x ρ' S2 => rw [e] at q; exact q
      | stuck => rw [e] at q; exact q
end

/-! ### what is walked -/
structure ItD where
  cnt : Nat
  nx : Nat → Sto → Option D
  fin : Sto → Bool
abbrev Mi := Env' → Sto → R ItD
section
variable (K : PySem.W.Frag) (mg : Str → Option Value)
def ItOk (β : List Addr) (H : Hp) (J : It) (it : ItD) : Prop := ∀ β' H' S', Xt K β H β' H' → Rl K mg β' H' S' →
  (∀ i d, i < it.cnt → it.nx i S' = some d → J.go i H' ∧ ∀ x H'', J.yld i H' x H'' → Xt K β' H' β' H'' ∧ Rl K mg β' H'' S' ∧ Vd K mg β' H'' x d) ∧ (it.fin S' = true → J.stop it.cnt H')
def tMI (W : WX) (m : Mi) : TI := fun σ H Q => ∃ β S ρ, Rl K mg β H S ∧ En K mg β H ρ σ ∧ Po K mg W σ β H (m ρ S) fun it β' _ H' => ∀ J, ItOk K mg β' H' J it → Q J H'
end
structure MI (X : Cx) (W : WX) (tg iter : Expr) (m : Mi) : Prop where
  pi : PI X tg iter (tMI X.K X.mg W m)
theorem PI.weak {X : Cx} {tg e : Expr} {t t' : TI} (h : PI X tg e t) (i : ∀ σ H Q, t' σ H Q → t σ H Q) : PI X tg e t' := ⟨fun pins s σ H Q I q => h.run pins s σ H Q I (i σ H Q q)⟩
def itL (n c : Nat) : ItD := ⟨c, fun i S => (lstAt S n).bind (·[i]?), fun S => match lstAt S n with
  | some xs => decide (xs.length ≤ c)
  | none => false⟩
def itT (ds : List D) : ItD := ⟨ds.length, fun i _ => ds[i]?, fun _ => true⟩
def itS (z : Str) : ItD := ⟨z.cps.size, fun i _ => (z.cps[i]?).map fun c => .str ⟨#[c]⟩, fun _ => true⟩
def itR (lo : Int) (n : Nat) : ItD := ⟨n, fun i _ => some (.int (lo + i)), fun _ => true⟩
def mIt (m : Mx) : Mi := fun ρ S => (m ρ S).bind fun d S1 => match d with
  | .ref n => match lstAt S1 n with
    | some xs => .ok (itL n xs.length) S1
    | none => .stuck
  | .tup ds => .ok (itT ds) S1
  | .str z => .ok (itS z) S1
  | _ => .stuck
section
variable {X : Cx} {W : WX} {tg e : Expr} {m : Mx} {pos : Pos}
theorem itL_ok {K : PySem.W.Frag} {mg : Str → Option Value} {β : List Addr} {H : Hp} {n c : Nat} {a : Addr} (h : β[n]? = some a) : ItOk K mg β H (Itl K a) (itL n c) := by
  intro β' H' S' x r
  have h' := x.at' h
  refine ⟨fun i d hi hd => ?_, fun hf => ?_⟩
  · unfold itL at hd
    dsimp only at hd
    cases q : lstAt S' n with
    | none => rw [q] at hd; cases hd
    | some ds =>
      rw [q] at hd
      obtain ⟨xs, h1, h2⟩ := lst_read r h' q
      obtain ⟨v, h3, h4⟩ := h2.get (show ds[i]? = some d from hd)
      refine ⟨⟨xs, v, h1, h3⟩, fun y H'' hy => ?_⟩
      obtain ⟨rfl, hy⟩ := hy
      have e := hy xs h1
      rw [h3] at e
      cases e
      exact ⟨.refl, r, h4⟩
  · unfold itL at hf
    dsimp only at hf
    cases q : lstAt S' n with
    | none => rw [q] at hf; cases hf
    | some ds =>
      rw [q] at hf
      obtain ⟨xs, h1, h2⟩ := lst_read r h' q
      exact ⟨xs, h1, by rw [h2.length]; exact of_decide_eq_true hf⟩
theorem itT_ok {K : PySem.W.Frag} {mg : Str → Option Value} {β : List Addr} {H : Hp} {ds : List D} {a : Addr} {xs : List V} (h : H a = some (.tup xs)) (hv : Vds K mg β H xs ds) : ItOk K mg β H (Itt K a) (itT ds) := by
  intro β' H' S' x r
  have h' : SqT K H' a xs := .of (x.tup _ _ h)
  have hv' := hv.ext x
  refine ⟨fun i d hi hd => ?_, fun _ => ⟨xs, h', by rw [hv.length]; exact Nat.le_refl _⟩⟩
  obtain ⟨v, h3, h4⟩ := hv'.get (show ds[i]? = some d from hd)
  refine ⟨⟨xs, v, h', h3⟩, fun y H'' hy => ?_⟩
  obtain ⟨rfl, hy⟩ := hy
  have e := hy xs h'
  rw [h3] at e
  cases e
  exact ⟨.refl, r, h4⟩
theorem itS_ok {K : PySem.W.Frag} {mg : Str → Option Value} {β : List Addr} {H : Hp} {z : Str} : ItOk K mg β H (Its z) (itS z) := by
  intro β' H' S' x r
  refine ⟨fun i d hi hd => ⟨hi, fun y H'' hy => ?_⟩, fun _ => Nat.le_refl _⟩
  obtain ⟨rfl, c, hc, rfl⟩ := hy
  unfold itS at hd
  dsimp only at hd
  rw [hc] at hd
  cases hd
  exact ⟨.refl, r, .str _⟩
theorem itR_ok {K : PySem.W.Frag} {mg : Str → Option Value} {β : List Addr} {H : Hp} {lo : Int} {n : Nat} : ItOk K mg β H (Itr lo n) (itR lo n) := by
  intro β' H' S' x r
  refine ⟨fun i d hi hd => ⟨hi, fun y H'' hy => ?_⟩, fun _ => Nat.le_refl _⟩
  obtain ⟨rfl, rfl⟩ := hy
  cases hd
  exact ⟨.refl, r, .int _⟩
/-- over a list, a tuple, a text: known by what the part comes to -/
theorem mi_seq (h : ME X W e m) : MI X W tg e (mIt m) := by
  refine ⟨⟨fun pins s σ H Q I ⟨β, S, ρ, rl, en, p⟩ => ?_⟩⟩
  have p' := (show Po X.K X.mg W σ β H ((m ρ S).bind _) _ from p).bind
  cases q : m ρ S with
  | stuck => rw [q] at p'; exact p'.elim
  | ex x S1 =>
    refine (pi_list h.pe).run pins s σ H Q I ⟨β, S, ρ, rl, en, ?_⟩
    rw [q] at p' ⊢
    exact p'
  | ok d S1 =>
    rw [q] at p'
    cases d with
    | ref n =>
      refine (pi_list h.pe).run pins s σ H Q I ⟨β, S, ρ, rl, en, ?_⟩
      rw [q]
      intro β1 H1 x1 r1 v hv
      have g := p' β1 H1 x1 r1
      dsimp only at g
      obtain ⟨a, rfl, h1⟩ := hv.ref_inv
      cases q2 : lstAt S1 n with
      | none => rw [q2] at g; exact g.elim
      | some xs =>
        rw [q2] at g
        obtain ⟨vs, h2, h3⟩ := lst_read r1 h1 q2
        exact ⟨a, rfl, ⟨vs, h2⟩, g β1 H1 .refl r1 _ (itL_ok h1)⟩
    | tup ds =>
      refine (pi_tup h.pe).run pins s σ H Q I ⟨β, S, ρ, rl, en, ?_⟩
      rw [q]
      intro β1 H1 x1 r1 v hv
      have g := p' β1 H1 x1 r1
      dsimp only at g
      obtain ⟨a, vs, rfl, h1, h2⟩ := hv.tup_at
      exact ⟨a, rfl, ⟨vs, .of h1⟩, g β1 H1 .refl r1 _ (itT_ok h1 h2)⟩
    | str z =>
      refine (pi_str h.pe).run pins s σ H Q I ⟨β, S, ρ, rl, en, ?_⟩
      rw [q]
      intro β1 H1 x1 r1 v hv
      have g := p' β1 H1 x1 r1
      dsimp only at g
      cases hv
      exact ⟨z, rfl, g β1 H1 .refl r1 _ itS_ok⟩
    | _ =>
      refine (pi_list h.pe).run pins s σ H Q I ⟨β, S, ρ, rl, en, ?_⟩
      rw [q]
      intro β1 H1 x1 r1 v hv
      exact (p' β1 H1 x1 r1).elim
/-- range(n), range(a, b) -/
noncomputable def small62 (i : Int) : Bool := cdec (-4611686018427387904 ≤ i ∧ i < 4611686018427387904)
theorem small62_of {i : Int} (h : small62 i = true) : -(2 ^ 62) ≤ i ∧ i < 2 ^ 62 := by
  have := cdec_of h
  omega
theorem Vds.one {K : PySem.W.Frag} {mg : Str → Option Value} {β : List Addr} {H : Hp} {vs : List V} {d : D} (h : Vds K mg β H vs [d]) : ∃ v, vs = [v] ∧ Vd K mg β H v d := by
  cases h with
  | cons h t => cases t; exact ⟨_, rfl, h⟩
theorem Vds.two {K : PySem.W.Frag} {mg : Str → Option Value} {β : List Addr} {H : Hp} {vs : List V} {d d' : D} (h : Vds K mg β H vs [d, d']) : ∃ v v', vs = [v, v'] ∧ Vd K mg β H v d ∧ Vd K mg β H v' d' := by
  cases h with
  | cons h t =>
    obtain ⟨v', rfl, h'⟩ := t.one
    exact ⟨_, _, rfl, h, h'⟩
theorem Vds.three {K : PySem.W.Frag} {mg : Str → Option Value} {β : List Addr} {H : Hp} {vs : List V} {d d' d'' : D} (h : Vds K mg β H vs [d, d', d'']) : ∃ v v' v'', vs = [v, v', v''] ∧ Vd K mg β H v d ∧ Vd K mg β H v' d' ∧ Vd K mg β H v'' d'' := by
  cases h with
  | cons h t =>
    obtain ⟨v', v'', rfl, h', h''⟩ := t.two
    exact ⟨_, _, _, rfl, h, h', h''⟩
/-- one argument, two arguments: from the parts to the list -/
theorem Po.args1 {K : PySem.W.Frag} {mg : Str → Option Value} {σ : L2.St} {β : List Addr} {H : Hp} {ρ : Env'} {S : Sto} {G : D → List Addr → Sto → Hp → Prop} (p : Po K mg W σ β H (m ρ S) G) : Po K mg W σ β H (mCons m mNil ρ S) fun ds β' S' H' => ∃ d, ds = [d] ∧ G d β' S' H' := by
  unfold mCons mNil
  cases q : m ρ S with
  | stuck => rw [q] at p; exact p
  | ex x S1 => rw [q] at p; exact p
  | ok d S1 => rw [q] at p; exact fun β' H' x r => ⟨d, rfl, p β' H' x r⟩
theorem Po.args2 {K : PySem.W.Frag} {mg : Str → Option Value} {σ : L2.St} {β : List Addr} {H : Hp} {ρ : Env'} {S : Sto} {m2 : Mx} {G : D → D → List Addr → Sto → Hp → Prop} (p : Po K mg W σ β H ((m ρ S).bind fun x S1 => (m2 ρ S1).bind fun y S2 => .ok (x, y) S2) fun xy β' S' H' => G xy.1 xy.2 β' S' H') :
    Po K mg W σ β H (mCons m (mCons m2 mNil) ρ S) fun ds β' S' H' => ∃ x y, ds = [x, y] ∧ G x y β' S' H' := by
  unfold mCons mNil
  cases q : m ρ S with
  | stuck => rw [q] at p; exact p
  | ex x S1 => rw [q] at p; exact p
  | ok d S1 =>
    rw [q] at p
    have p2 : Po K mg W σ β H ((m2 ρ S1).bind fun y S2 => .ok (d, y) S2) fun xy β' S' H' => G xy.1 xy.2 β' S' H' := p
    show Po K mg W σ β H (((m2 ρ S1).bind fun d2 S2 => (R.ok ([] : List D) S2).bind fun ds S3 => .ok (d2 :: ds) S3).bind fun ds S2 => .ok (d :: ds) S2) _
    cases q2 : m2 ρ S1 with
    | stuck => rw [q2] at p2; exact p2
    | ex x S2 => rw [q2] at p2; exact p2
    | ok e S2 => rw [q2] at p2; exact fun β' H' x r => ⟨d, e, rfl, p2 β' H' x r⟩
def m2 {α : Type} (ma mb : Mx) (f : D → D → Sto → R α) : Env' → Sto → R α := fun ρ S => (ma ρ S).bind fun x S1 => (mb ρ S1).bind fun y S2 => f x y S2
theorem Po.m2 {α : Type} {K : PySem.W.Frag} {mg : Str → Option Value} {σ : L2.St} {β : List Addr} {H : Hp} {ρ : Env'} {S : Sto} {mb : Mx} {f : D → D → Sto → R α} {G : α → List Addr → Sto → Hp → Prop} (p : Po K mg W σ β H (m2 m mb f ρ S) G) :
    Po K mg W σ β H ((m ρ S).bind fun x S1 => (mb ρ S1).bind fun y S2 => .ok (x, y) S2) fun xy β' S' H' => Po K mg W σ β' H' (f xy.1 xy.2 S') G := by
  unfold Eng.m2 at p
  cases q : m ρ S with
  | stuck => rw [q] at p; exact p
  | ex x S1 => rw [q] at p; exact p
  | ok d S1 =>
    rw [q] at p
    have p2 : Po K mg W σ β H ((mb ρ S1).bind fun y S2 => f d y S2) G := p
    show Po K mg W σ β H ((mb ρ S1).bind fun y S2 => .ok (d, y) S2) _
    cases q2 : mb ρ S1 with
    | stuck => rw [q2] at p2; exact p2
    | ex x S2 => rw [q2] at p2; exact p2
    | ok e S2 => rw [q2] at p2; exact fun β' H' x r => Po.xt p2 x
noncomputable def rg1 (d : D) (S : Sto) : R ItD := match d with
  | .int n => if small62 n = true then .ok (itR 0 n.toNat) S else .stuck
  | _ => .stuck
noncomputable def mRange1 (m : Mx) : Mi := fun ρ S => (m ρ S).bind rg1
theorem mi_range1 {a : Expr} {p : Pos} (hm : X.mg "range" = none) (ha : ME X W a m) (hg : Gl X "range" := by rfl) (hs : starEach [a] X.env = [(false, eval a X.env)] := by rfl) : MI X W tg (.Call (.Name "range" p) [a] [] pos) (mRange1 m) := by
  refine ⟨PI.weak (pi_range1 hg hm (ma_cons ha ma_nil hs).pa hs) fun σ H Q ⟨β, S, ρ, rl, en, p⟩ => ?_⟩
  refine ⟨β, S, ρ, rl, en, (Po.bind p).args1.mono fun ds β1 S1 H1 x1 r1 ⟨d, e, q⟩ vs hv => ?_⟩
  subst e
  obtain ⟨v, rfl, h⟩ := hv.one
  cases d with
  | int n =>
    cases h
    unfold rg1 at q
    dsimp only at q
    split at q
    · rename_i h
      obtain ⟨h1, h2⟩ := small62_of h
      exact ⟨n, rfl, h1, h2, q β1 H1 .refl r1 _ itR_ok⟩
    · exact q.elim
  | _ => exact q.elim
noncomputable def rg2 (d e : D) (S : Sto) : R ItD := match d, e with
  | .int a, .int b => if (small62 a && small62 b) = true then .ok (itR a (b - a).toNat) S else .stuck
  | _, _ => .stuck
noncomputable def mRange2 (ma mb : Mx) : Mi := m2 ma mb rg2
theorem mi_range2 {a b : Expr} {mb : Mx} {p : Pos} (hm : X.mg "range" = none) (ha : ME X W a m) (hb : ME X W b mb) (hg : Gl X "range" := by rfl) (hs : starEach [a, b] X.env = [(false, eval a X.env), (false, eval b X.env)] := by rfl) (hs2 : starEach [b] X.env = [(false, eval b X.env)] := by rfl) :
    MI X W tg (.Call (.Name "range" p) [a, b] [] pos) (mRange2 m mb) := by
  refine ⟨PI.weak (pi_range2 hg hm (ma_cons ha (ma_cons hb ma_nil hs2) (by rw [hs, hs2])).pa hs hs2) fun σ H Q ⟨β, S, ρ, rl, en, p⟩ => ?_⟩
  refine ⟨β, S, ρ, rl, en, (Po.args2 (G := fun x y β' S' H' => Po X.K X.mg W σ β' H' (rg2 x y S') fun it β' _ H' => ∀ J, ItOk X.K X.mg β' H' J it → Q J H') (Po.m2 p)).mono fun ds β1 S1 H1 x1 r1 ⟨d, e, e1, q⟩ vs hv => ?_⟩
  subst e1
  obtain ⟨v, w, rfl, h, h'⟩ := hv.two
  cases d <;> cases e <;> first | (exact q.elim) | skip
  rename_i i j _
  cases h
  cases h'
  unfold rg2 at q
  dsimp only at q
  split at q
  · rename_i h
    rw [Bool.and_eq_true] at h
    obtain ⟨h1, h2⟩ := small62_of h.1
    obtain ⟨h3, h4⟩ := small62_of h.2
    exact ⟨i, j, rfl, ⟨h1, h2, h3, h4⟩, q β1 H1 .refl r1 _ itR_ok⟩
  · exact q.elim
end
end Eng

/-! The engine, part 4: targets, for, comprehensions, calls, defs. -/
namespace Eng
open PySem PySem.Spec PyProof.Rows L2
variable [TabCfg]

/-! ### targets -/
abbrev Ft := D → Env' → Option Env'
def tMG (K : PySem.W.Frag) (mg : Str → Option Value) (f : Ft) : TG := fun v σ H Q => ∃ β S ρ d ρ', Rl K mg β H S ∧ En K mg β H ρ σ ∧ Vd K mg β H v d ∧ f d ρ = some ρ' ∧ ∀ σ', En K mg β H ρ' σ' → Q σ' H
structure MG (X : Cx) (tg : Expr) (f : Ft) : Prop where
  pg : PG X tg (tMG X.K X.mg f)
theorem PG.weak {X : Cx} {e : Expr} {t t' : TG} (h : PG X e t) (i : ∀ v σ H Q, t' v σ H Q → t v σ H Q) : PG X e t' := ⟨fun pins s σ H v u Q I r q => h.run pins s σ H v u Q I r (i v σ H Q q)⟩
def fName (i : Nat) : Ft := fun d ρ => some (ρ.set i (some d))
/-- a tuple of names -/
def setAll : List Nat → List D → Env' → Env'
  | i :: is, d :: ds, ρ => setAll is ds (ρ.set i (some d))
  | _, _, ρ => ρ
def fNames (is : List Nat) : Ft := fun d ρ => match d with
  | .tup ds => if ds.length = is.length then some (setAll is ds ρ) else none
  | _ => none
section
variable {X : Cx} {W : WX} {pos : Pos}
theorem mg_name {i : Nat} {x : Str} (hN : X.N.Nodup) (hi : X.N[i]? = some x := by rfl) (hx : Loc X.env.scope x := by first | exact .inl rfl | exact .inr rfl) (hf : X.fn x = true ∨ X.env.scope.names.lookup x = some .local := by first | exact .inl rfl | exact .inr rfl) : MG X (.Name x pos) (fName i) :=
  ⟨PG.weak (pg_name hN hi hx hf) fun v σ H Q ⟨β, S, ρ, d, ρ', rl, en, hv, e, q⟩ => by
    cases e
    exact q _ (en.set i hv)⟩
structure MGs (X : Cx) (ts : List Expr) (is : List Nat) : Prop where
  pgs : PGs X ts (fun vs σ H Q => ∃ β S ρ ds, Rl X.K X.mg β H S ∧ En X.K X.mg β H ρ σ ∧ Vds X.K X.mg β H vs ds ∧ ds.length = is.length ∧ ∀ σ', En X.K X.mg β H (setAll is ds ρ) σ' → Q σ' H)
theorem PGs.weak {X : Cx} {e : List Expr} {t t' : TGs} (h : PGs X e t) (i : ∀ v σ H Q, t' v σ H Q → t v σ H Q) : PGs X e t' := ⟨fun pins s σ H v u Q I r q => h.run pins s σ H v u Q I r (i v σ H Q q)⟩
theorem mgs_nil : MGs X [] [] := ⟨PGs.weak pgs_nil fun vs σ H Q ⟨β, S, ρ, ds, rl, en, hv, hl, q⟩ => by
  cases ds with
  | nil => cases hv; exact ⟨rfl, q σ en⟩
  | cons d ds => cases hl⟩
theorem mgs_cons {i : Nat} {is : List Nat} {x : Str} {es : List Expr} (h2 : MGs X es is) (hN : X.N.Nodup) (hi : X.N[i]? = some x := by rfl) (hx : Loc X.env.scope x := by first | exact .inl rfl | exact .inr rfl) (hf : X.fn x = true ∨ X.env.scope.names.lookup x = some .local := by first | exact .inl rfl | exact .inr rfl)
    (hs : (assignEach (.Name x pos :: es) X.env).map (·.2) = assign (.Name x pos) X.env :: (assignEach es X.env).map (·.2) := by rfl) : MGs X (.Name x pos :: es) (i :: is) := by
  refine ⟨PGs.weak (pgs_cons (pg_name hN hi hx hf) h2.pgs hs) fun vs σ H Q ⟨β, S, ρ, ds, rl, en, hv, hl, q⟩ => ?_⟩
  cases hv with
  | nil => cases hl
  | cons h t => exact ⟨_, _, rfl, β, S, _, _, rl, en.set i h, t, Nat.succ.inj hl, fun σ' en' => q σ' en'⟩
theorem mg_tup {es : List Expr} {k : Nat} {is : List Nat} (h : MGs X es is) (hc : X.calm = true := by rfl)
    (hn : (assignEach es X.env).length = is.length := by rfl) (hst : (assignEach es X.env).findIdx? (·.1) = none := by rfl) : MG X (.Tuple es k pos) (fNames is) :=
  ⟨PG.weak (pg_tup hc h.pgs hn hst) fun v σ H Q ⟨β, S, ρ, d, ρ', rl, en, hv, e, q⟩ => by
    cases d with
    | tup ds =>
      unfold fNames at e
      dsimp only at e
      split at e
      · rename_i hl
        cases e
        obtain ⟨a, xs, rfl, h1, h2⟩ := hv.tup_inv
        exact ⟨a, xs, rfl, h1, by rw [h2.length]; exact hl, β, S, ρ, ds, rl, en, h2, hl, q⟩
      · cases e
    | _ => cases e⟩
def sAsgT (m : Mx) (f : Ft) : Ms := fun ρ S => (m ρ S).st ρ fun d S1 => match f d ρ with
  | some ρ' => .fl (.nx ρ') S1
  | none => .stuck
/-- (a, b, ..) = e -/
theorem ms_asgT {tg e : Expr} {m : Mx} {f : Ft} (he : ME X W e m) (hg : MG X tg f) (hs : swapsWithSole [tg] e pos.line X.env = pure false := by rfl) (hw : swappedStores [tg] e X.env = pure none := by rfl)
    (h1 : (assignEach [tg] X.env).map (·.2) = [assign tg X.env] := by rfl) : MS X W (.Assign [tg] e pos) (sAsgT m f) := by
  refine ⟨PS.weak (ps_asg he.pe hg.pg hs hw h1) fun D σ H ⟨β, S, ρ, rl, en, p⟩ => ⟨β, S, ρ, rl, en, (PoS.st p en).mono fun d β1 S1 H1 x1 r1 q v hv => ?_⟩⟩
  cases e : f d ρ with
  | none => rw [e] at q; exact q.elim
  | some ρ' =>
    rw [e] at q
    exact ⟨β1, S1, ρ, d, ρ', r1, en.ext x1, hv, e, fun σ' en' => q β1 H1 σ' .refl r1 en'⟩
/-! ### for -/
def forF (it : ItD) (f : Ft) (b : Ms) : Nat → Nat → Ms
  | 0, _, ρ, S => if it.fin S = true then .fl (.nx ρ) S else .stuck
  | n + 1, i, ρ, S => match it.nx i S with
    | none => .stuck
    | some d => match f d ρ with
      | none => .stuck
      | some ρ1 => match b ρ1 S with
        | .fl (.nx ρ2) S2 => forF it f b n (i + 1) ρ2 S2
        | r => r
def sFor (mi : Mi) (f : Ft) (b : Ms) : Ms := fun ρ S => (mi ρ S).st ρ fun it S1 => forF it f b it.cnt 0 ρ S1
theorem ms_for {tg iter : Expr} {body : List Stmt} {mi : Mi} {f : Ft} {b : Ms} (hp : PassesOwn (model X.prog X.w) X.A X.env X.xe) (hi : MI X W tg iter mi) (hg : MG X tg f) (hb : MSs X W body b) (hc : X.calm = true := by rfl)
    (hs : ∀ x, foldedSetIterable iter X.env x = pure x := by intro _; rfl) : MS X W (.For tg iter body [] pos) (sFor mi f b) := by
  refine ⟨PS.weak (ps_for hp hc hi.pi hg.pg hb.ps hs) fun D σ H ⟨β, S, ρ, rl, en, p⟩ => ⟨β, S, ρ, rl, en, (PoS.st p en).mono fun it β1 S1 H1 x1 r1 q J hJ => ?_⟩⟩
  refine ⟨fun i m σ H => ∃ β S ρ, Xt X.K β1 H1 β H ∧ Rl X.K X.mg β H S ∧ En X.K X.mg β H ρ σ ∧ i + m = it.cnt ∧ PoS X.K X.mg W β H (forF it f b m i ρ S) D, ⟨it.cnt, β1, S1, ρ, .refl, r1, en.ext x1, Nat.zero_add _, q⟩, ?_⟩
  rintro i m σ H ⟨β, S, ρ, x, rl, en, hm, p⟩
  obtain ⟨h1, h2⟩ := hJ β H S x rl
  cases m with
  | zero =>
    unfold forF at p
    split at p
    · rename_i hf
      have e : i = it.cnt := by omega
      subst e
      exact .inl ⟨h2 hf, p β H σ .refl rl en⟩
    · exact p.elim
  | succ k =>
    unfold forF at p
    cases e1 : it.nx i S with
    | none => rw [e1] at p; exact p.elim
    | some d =>
      rw [e1] at p
      dsimp only at p
      cases e2 : f d ρ with
      | none => rw [e2] at p; exact p.elim
      | some ρ1 =>
        rw [e2] at p
        dsimp only at p
        obtain ⟨go, yld⟩ := h1 i d (by omega) e1
        refine .inr ⟨go, fun σ H => ∃ β S ρ, Xt X.K β1 H1 β H ∧ Rl X.K X.mg β H S ∧ En X.K X.mg β H ρ σ ∧ (i + 1) + k = it.cnt ∧ PoS X.K X.mg W β H (forF it f b k (i + 1) ρ S) D, fun σ' H' w => ⟨k, Nat.lt_succ_self k, w⟩, fun v H' hy => ?_⟩
        obtain ⟨x2, r2, hv⟩ := yld v H' hy
        refine ⟨β, S, ρ, d, ρ1, r2, en.ext x2, hv, e2, fun σ2 en2 => ⟨β, S, ρ1, r2, en2, ?_⟩⟩
        have p' := PoS.xt p x2
        cases e3 : b ρ1 S with
        | fl g S2 =>
          rw [e3] at p'
          cases g with
          | nx ρ2 => exact fun β' H' σ' y r en' => ⟨β', S2, ρ2, (x.trans x2).trans y, r, en', by omega, PoS.xt p' y⟩
          | rt d => exact p'
        | ex z ρ2 S2 => rw [e3] at p'; exact p'
        | stuck => rw [e3] at p'; exact p'
/-! ### x op= e -/
def sAug (i : Nat) (f : F2) (m : Mx) : Ms := fun ρ S => match ρ[i]? with
  | some (some x) => (m ρ S).st ρ fun y S1 => match f x y S1 with
    | some (d, S2) => .fl (.nx (ρ.set i (some d))) S2
    | none => .stuck
  | _ => .stuck
theorem ms_aug {r : TIp} {f : F2} {op : Operator} {i : Nat} {x : Str} {e : Expr} {m : Mx} {pos' : Pos} (ho : PIp X op r) (hf : Op2 X r f) (he : ME X W e m) (hN : X.N.Nodup) (hi : X.N[i]? = some x := by rfl) (hx : Loc X.env.scope x := by first | exact .inl rfl | exact .inr rfl)
    (hfn : X.fn x = true ∨ X.env.scope.names.lookup x = some .local := by first | exact .inl rfl | exact .inr rfl) : MS X W (.AugAssign (.Name x pos') op e pos) (sAug i f m) := by
  refine ⟨PS.weak (ps_aug (i := i) hN hi hx he.pe ho hfn) fun D σ H ⟨β, S, ρ, rl, en, p⟩ => ?_⟩
  unfold sAug at p
  cases q : ρ[i]? with
  | none => rw [q] at p; exact p.elim
  | some o =>
    cases o with
    | none => rw [q] at p; exact p.elim
    | some d =>
      rw [q] at p
      obtain ⟨v, h1, h2⟩ := en.at' i d q
      refine ⟨v, h1, β, S, ρ, rl, en, (PoS.st p en).mono fun y β1 S1 H1 x1 r1 q u hu => ?_⟩
      cases e : f d y S1 with
      | none => rw [e] at q; exact q.elim
      | some z =>
        rw [e] at q
        exact hf β1 H1 S1 d y v u z.1 z.2 _ r1 (h2.ext x1) hu e fun β' H' w x r hw => q β' H' _ x r (((en.ext x1).ext x).set i hw)
theorem ms_augAdd {i : Nat} {x : Str} {e : Expr} {m : Mx} {pos' : Pos} (he : ME X W e m) (hN : X.N.Nodup) (hi : X.N[i]? = some x := by rfl) (hx : Loc X.env.scope x := by first | exact .inl rfl | exact .inr rfl)
    (hfn : X.fn x = true ∨ X.env.scope.names.lookup x = some .local := by first | exact .inl rfl | exact .inr rfl) : MS X W (.AugAssign (.Name x pos') .Add e pos) (sAug i (fI cT fun a b => .int (a + b)) m) :=
  ms_aug (r := ipI fun a b => a + b) ip_add (op2_I0 (g := fun a b => .int (a + b)) fun _ _ _ _ => .int _) he hN hi hx hfn
theorem ms_augSub {i : Nat} {x : Str} {e : Expr} {m : Mx} {pos' : Pos} (he : ME X W e m) (hN : X.N.Nodup) (hi : X.N[i]? = some x := by rfl) (hx : Loc X.env.scope x := by first | exact .inl rfl | exact .inr rfl)
    (hfn : X.fn x = true ∨ X.env.scope.names.lookup x = some .local := by first | exact .inl rfl | exact .inr rfl) : MS X W (.AugAssign (.Name x pos') .Sub e pos) (sAug i fSub m) :=
  ms_aug (r := ipI fun a b => a - b) ip_sub (op2_I0 (g := fun a b => .int (a - b)) fun _ _ _ _ => .int _) he hN hi hx hfn

/-! ### built-ins that are called by their values -/
abbrev FA := List D → Sto → Option (D × Sto)
def OpA (X : Cx) (r : List V → Hp → VK → Prop) (f : FA) : Prop := ∀ β H S xs vs d S' Q, Rl X.K X.mg β H S → Vds X.K X.mg β H vs xs → f xs S = some (d, S') →
  (∀ β' H' w, Xt X.K β H β' H' → Rl X.K X.mg β' H' S' → Vd X.K X.mg β' H' w d → Q w H') → r vs H Q
def mCB (f : FA) (m : Ma) : Mx := fun ρ S => (m ρ S).bind fun ds S1 => R.ofO (f ds S1)
theorem me_cb {x : Str} {id : String} {r : List V → Hp → VK → Prop} {f : FA} {e : Expr} {es : List Expr} {m : Ma} {p : Pos} (hc : CallR X (.builtin id) r) (hf : OpA X r f) (ha : MA X W (e :: es) m) (hm : X.mg x = none) (hv : bootBuiltins x = some (.builtin id)) (hg : Gl X x := by rfl) (hn : x ≠ "__name__" := by decide) (hdb : (x == ("__debug__" : Str)) = false := by decide)
    (he : starEach (e :: es) X.env = (false, eval e X.env) :: starEach es X.env := by rfl) (hpl : (backTo pos (starEach es X.env)).any (·.1) = false := by rfl) : ME X W (.Call (.Name x p) (e :: es) [] pos) (mCB f m) := by
  refine ⟨PE.weak (pe_callB hc hg hm hv ha.pa hn hdb he hpl) fun σ H Q ⟨β, S, ρ, rl, en, p⟩ => ⟨β, S, ρ, rl, en, p.bind.mono fun ds β1 S1 H1 x1 r1 q vs hvs => ?_⟩⟩
  obtain ⟨z, S3, e3, k⟩ := q.ofO
  exact hf β1 H1 S1 ds vs z S3 Q r1 hvs e3 fun β' H' w x r hw => k β' H' x r w hw
theorem me_cty {x : Str} {T : String} {r : List V → Hp → VK → Prop} {f : FA} {e : Expr} {es : List Expr} {m : Ma} {p : Pos} (hc : CallR X (.type T) r) (hf : OpA X r f) (ha : MA X W (e :: es) m) (hm : X.mg x = none) (hv : bootBuiltins x = some (.type T)) (hg : Gl X x := by rfl) (hn : x ≠ "__name__" := by decide) (hdb : (x == ("__debug__" : Str)) = false := by decide)
    (he : starEach (e :: es) X.env = (false, eval e X.env) :: starEach es X.env := by rfl) (hpl : (backTo pos (starEach es X.env)).any (·.1) = false := by rfl) : ME X W (.Call (.Name x p) (e :: es) [] pos) (mCB f m) := by
  refine ⟨PE.weak (pe_callTy hc hg hm hv ha.pa hn hdb he hpl) fun σ H Q ⟨β, S, ρ, rl, en, p⟩ => ⟨β, S, ρ, rl, en, p.bind.mono fun ds β1 S1 H1 x1 r1 q vs hvs => ?_⟩⟩
  obtain ⟨z, S3, e3, k⟩ := q.ofO
  exact hf β1 H1 S1 ds vs z S3 Q r1 hvs e3 fun β' H' w x r hw => k β' H' x r w hw
/-! #### len -/
def fLen : FA
  | [.str y], S => if y.length ≤ sizeLine then some (.int y.length, S) else none
  | [.tup ds], S => some (.int ds.length, S)
  | [.ref n], S => match lstAt S n with
    | some ds => some (.int ds.length, S)
    | none => match S[n]? with
      | some (.dk kvs) => some (.int kvs.length, S)
      | some (.dt kvs) => some (.int kvs.length, S)
      | _ => none
  | _, _ => none
def rLenA (K : PySem.W.Frag) : List V → Hp → VK → Prop := fun xs H Q => ((∃ x n, xs = [x] ∧ LenV K x H n ∧ Q (.int n) H) ∨ ∃ a kvs, xs = [.ref a] ∧ H a = some (.dK kvs) ∧ Q (.int kvs.length) H) ∨ rLenT xs H Q
theorem CallR.or {f : Value} {r r' : List V → Hp → VK → Prop} (h : CallR X f r) (h' : CallR X f r') : CallR X f fun xs H Q => r xs H Q ∨ r' xs H Q := by
  intro pins s σ H xs us Q I rv q
  rcases q with q | q
  · exact h pins s σ H xs us Q I rv q
  · exact h' pins s σ H xs us Q I rv q
theorem Pd.length {K : PySem.W.Frag} {mg : Str → Option Value} {β : List Addr} {H : Hp} {κ : Type} {xs : List (κ × V)} {ds : List (κ × D)} (h : Pd K mg β H xs ds) : xs.length = ds.length := Paired.length h
theorem o_len : OpA X (rLenA X.K) fLen := by
  intro β H S xs vs d S' Q r hv e k
  match xs, e, hv with
  | [.str y], e, hv =>
    obtain ⟨v, rfl, h⟩ := hv.one
    cases h
    unfold fLen at e
    dsimp only at e
    split at e
    · rename_i hl
      cases e
      exact .inl (.inl ⟨_, _, rfl, ⟨hl, rfl⟩, k β H _ .refl r (.int _)⟩)
    · cases e
  | [.tup ds], e, hv =>
    obtain ⟨v, rfl, h⟩ := hv.one
    obtain ⟨a, us, rfl, h1, h2⟩ := h.tup_inv
    cases e
    exact .inl (.inl ⟨_, _, rfl, .inr ⟨us, h1, rfl⟩, by rw [h2.length]; exact k β H _ .refl r (.int _)⟩)
  | [.ref n], e, hv =>
    obtain ⟨v, rfl, h⟩ := hv.one
    obtain ⟨a, rfl, h1⟩ := h.ref_inv
    unfold fLen at e
    dsimp only at e
    cases q : lstAt S n with
    | some ds =>
      rw [q] at e
      cases e
      obtain ⟨us, h2, h3⟩ := lst_read r h1 q
      exact .inl (.inl ⟨_, _, rfl, .inl ⟨us, h2, rfl⟩, by rw [h3.length]; exact k β H _ .refl r (.int _)⟩)
    | none =>
      rw [q] at e
      dsimp only at e
      cases q2 : S[n]? with
      | none => rw [q2] at e; cases e
      | some o =>
        rw [q2] at e
        cases o with
        | dk kvs =>
          cases e
          obtain ⟨us, h2, h3⟩ := r.at' n a _ h1 q2
          exact .inl (.inr ⟨a, us, rfl, h2, by rw [h3.length]; exact k β H _ .refl r (.int _)⟩)
        | dt kvs =>
          cases e
          obtain ⟨us, h2, h3⟩ := r.at' n a _ h1 q2
          exact .inr ⟨a, us, rfl, h2, by rw [h3.length]; exact k β H _ .refl r (.int _)⟩
        | _ => cases e
theorem me_len {e : Expr} {m : Mx} {p : Pos} (hm : X.mg "len" = none) (ha : ME X W e m) (hg : Gl X "len" := by rfl) (hs : starEach [e] X.env = [(false, eval e X.env)] := by rfl) : ME X W (.Call (.Name "len" p) [e] [] pos) (mCB fLen (mCons m mNil)) :=
  me_cb (CallR.or (CallR.or call_len (by exact call_lenD)) call_len_dT) o_len (ma_cons ha ma_nil hs) hm PySem.boot_len hg (by decide) (by decide) hs rfl
/-! #### isinstance(x, C): built-in types -/
def tyD (S : Sto) : D → Option String
  | .non => some "NoneType"
  | .bl _ => some "bool"
  | .int _ => some "int"
  | .str _ => some "str"
  | .tup _ => some "tuple"
  | .ref n => match S[n]? with
    | some (.lst _) => some "list"
    | some (.rdl _) => some "list"
    | some (.dk _) => some "dict"
    | some (.dt _) => some "dict"
    | _ => none
  | _ => none
def fIsi : FA
  | [x, .ty n], S => match tyD S x with
    | some t => (kitB t n).map fun b => (.bl b, S)
    | none => none
  | _, _ => none
theorem tyD_ok {K : PySem.W.Frag} {mg : Str → Option Value} {β : List Addr} {H : Hp} {S : Sto} {v : V} {d : D} {t : String} (r : Rl K mg β H S) (h : Vd K mg β H v d) (e : tyD S d = some t) : TyX K H v (.type t) := by
  cases h with
  | non => cases e; exact .base .non
  | bl b => cases e; exact .base (.bl b)
  | int i => cases e; exact .base (.int i)
  | str x => cases e; exact .base (.str x)
  | ty n => cases e
  | gl h => cases e
  | @tup a xs ds h1 h2 =>
    cases e
    exact .base (.tup h1)
  | @ref a n h1 =>
    unfold tyD at e
    dsimp only at e
    cases q : S[n]? with
    | none => rw [q] at e; cases e
    | some o =>
      rw [q] at e
      have ho := r.at' n a o h1 q
      cases o with
      | lst xs =>
        cases e
        obtain ⟨us, h2, _⟩ := ho
        exact .base (.lst h2)
      | rdl xs =>
        cases e
        obtain ⟨us, h2, _⟩ := ho
        rcases h2 with ⟨o, h2⟩ | ⟨o, its, n', hk, hc, hd, _⟩
        · exact .base (.frz h2)
        · exact .kList hk hc
      | dk xs =>
        cases e
        obtain ⟨us, h2, _⟩ := ho
        exact .base (.dK h2)
      | dt xs =>
        cases e
        obtain ⟨us, h2, _⟩ := ho
        exact .base (.dT h2)
      | _ => cases e
theorem o_isi : OpA X (rIsi X.K) fIsi := by
  intro β H S xs vs d S' Q r hv e k
  match xs, e, hv with
  | [x, .ty n], e, hv =>
    obtain ⟨v, w, rfl, h1, h2⟩ := hv.two
    cases h2
    unfold fIsi at e
    dsimp only at e
    cases q : tyD S x with
    | none => rw [q] at e; cases e
    | some t =>
      rw [q] at e
      dsimp only at e
      cases q2 : kitB t n with
      | none => rw [q2] at e; cases e
      | some b =>
        rw [q2] at e
        cases e
        exact ⟨v, .ty n, .type t, .type n, b, rfl, .ty n, tyD_ok r h1 q, kit_ty q2, k β H _ .refl r (.bl b)⟩
theorem me_isi {e c : Expr} {m mc : Mx} {p : Pos} (hm : X.mg "isinstance" = none) (ha : ME X W e m) (hc : ME X W c mc) (hg : Gl X "isinstance" := by rfl) (hs : starEach [e, c] X.env = [(false, eval e X.env), (false, eval c X.env)] := by rfl) (hs2 : starEach [c] X.env = [(false, eval c X.env)] := by rfl) :
    ME X W (.Call (.Name "isinstance" p) [e, c] [] pos) (mCB fIsi (mCons m (mCons mc mNil))) :=
  me_cb call_isi o_isi (ma_cons ha (ma_cons hc ma_nil hs2) (by rw [hs, hs2])) hm (by decide +kernel) hg (by decide) (by decide) (by rw [hs, hs2]) (by rw [hs2]; rfl)
/-! #### str(n), int(x), min, max, abs, list, tuple, ord -/
def fStr : FA
  | [.int i], S => if i.natAbs.log2 < 1920 then some (.str (toString i), S) else none
  | _, _ => none
theorem o_str : OpA X (fun xs H Q => ∃ i, xs = [.int i] ∧ i.natAbs.log2 < 1920 ∧ Q (.str (toString i)) H) fStr := by
  intro β H S xs vs d S' Q r hv e k
  match xs, e, hv with
  | [.int i], e, hv =>
    obtain ⟨v, rfl, h⟩ := hv.one
    cases h
    unfold fStr at e
    dsimp only at e
    split at e
    · rename_i hl
      cases e
      exact ⟨i, rfl, hl, k β H _ .refl r (.str _)⟩
    · cases e
theorem me_str1 {e : Expr} {m : Mx} {p : Pos} (hm : X.mg "str" = none) (ha : ME X W e m) (hg : Gl X "str" := by rfl) (hs : starEach [e] X.env = [(false, eval e X.env)] := by rfl) : ME X W (.Call (.Name "str" p) [e] [] pos) (mCB fStr (mCons m mNil)) :=
  me_cty call_str_int o_str (ma_cons ha ma_nil hs) hm (by decide +kernel) hg (by decide) (by decide) hs rfl
def fInt : FA
  | [.int i], S => some (.int i, S)
  | [.bl b], S => some (.int (if b then 1 else 0), S)
  | [.str a], S => if a.length ≤ 640 then (PySem.intText? a).map fun n => (.int n, S) else none
  | _, _ => none
def rIntA : List V → Hp → VK → Prop := fun xs H Q => ((∃ i, xs = [.int i] ∧ Q (.int i) H) ∨ ∃ k, xs = [.bl k] ∧ Q (.int (if k then 1 else 0)) H) ∨ ∃ a n, xs = [.str a] ∧ PySem.intText? a = some n ∧ a.length ≤ 640 ∧ Q (.int n) H
theorem o_int : OpA X rIntA fInt := by
  intro β H S xs vs d S' Q r hv e k
  match xs, e, hv with
  | [.int i], e, hv =>
    obtain ⟨v, rfl, h⟩ := hv.one
    cases h
    cases e
    exact .inl (.inl ⟨i, rfl, k β H _ .refl r (.int _)⟩)
  | [.bl b], e, hv =>
    obtain ⟨v, rfl, h⟩ := hv.one
    cases h
    cases e
    exact .inl (.inr ⟨b, rfl, k β H _ .refl r (.int _)⟩)
  | [.str a], e, hv =>
    obtain ⟨v, rfl, h⟩ := hv.one
    cases h
    unfold fInt at e
    dsimp only at e
    split at e
    · rename_i hl
      cases q : PySem.intText? a with
      | none => rw [q] at e; cases e
      | some n =>
        rw [q] at e
        cases e
        exact .inr ⟨a, n, rfl, q, hl, k β H _ .refl r (.int _)⟩
    · cases e
theorem me_int1 {e : Expr} {m : Mx} {p : Pos} (hm : X.mg "int" = none) (ha : ME X W e m) (hg : Gl X "int" := by rfl) (hs : starEach [e] X.env = [(false, eval e X.env)] := by rfl) : ME X W (.Call (.Name "int" p) [e] [] pos) (mCB fInt (mCons m mNil)) :=
  me_cty (CallR.or call_int1 call_int_str) o_int (ma_cons ha ma_nil hs) hm (by decide +kernel) hg (by decide) (by decide) hs rfl
def fMax : FA
  | [.int i, .int j], S => some (.int (if j > i then j else i), S)
  | _, _ => none
def fMin : FA
  | [.int i, .int j], S => some (.int (if j < i then j else i), S)
  | _, _ => none
theorem o_max : OpA X (fun xs H Q => ∃ i j, xs = [.int i, .int j] ∧ Q (.int (if j > i then j else i)) H) fMax := by
  intro β H S xs vs d S' Q r hv e k
  match xs, e, hv with
  | [.int i, .int j], e, hv =>
    obtain ⟨v, w, rfl, h, h'⟩ := hv.two
    cases h
    cases h'
    cases e
    exact ⟨i, j, rfl, k β H _ .refl r (.int _)⟩
theorem o_min : OpA X (fun xs H Q => ∃ i j, xs = [.int i, .int j] ∧ Q (.int (if j < i then j else i)) H) fMin := by
  intro β H S xs vs d S' Q r hv e k
  match xs, e, hv with
  | [.int i, .int j], e, hv =>
    obtain ⟨v, w, rfl, h, h'⟩ := hv.two
    cases h
    cases h'
    cases e
    exact ⟨i, j, rfl, k β H _ .refl r (.int _)⟩
theorem me_max2 {a b : Expr} {m m2 : Mx} {p : Pos} (hm : X.mg "max" = none) (ha : ME X W a m) (hb : ME X W b m2) (hc : X.calm = true := by rfl) (hg : Gl X "max" := by rfl) (hs : starEach [a, b] X.env = [(false, eval a X.env), (false, eval b X.env)] := by rfl) (hs2 : starEach [b] X.env = [(false, eval b X.env)] := by rfl) :
    ME X W (.Call (.Name "max" p) [a, b] [] pos) (mCB fMax (mCons m (mCons m2 mNil))) :=
  me_cb (call_max2 hc) o_max (ma_cons ha (ma_cons hb ma_nil hs2) (by rw [hs, hs2])) hm (by decide +kernel) hg (by decide) (by decide) (by rw [hs, hs2]) (by rw [hs2]; rfl)
theorem me_min2 {a b : Expr} {m m2 : Mx} {p : Pos} (hm : X.mg "min" = none) (ha : ME X W a m) (hb : ME X W b m2) (hc : X.calm = true := by rfl) (hg : Gl X "min" := by rfl) (hs : starEach [a, b] X.env = [(false, eval a X.env), (false, eval b X.env)] := by rfl) (hs2 : starEach [b] X.env = [(false, eval b X.env)] := by rfl) :
    ME X W (.Call (.Name "min" p) [a, b] [] pos) (mCB fMin (mCons m (mCons m2 mNil))) :=
  me_cb (call_min2 hc) o_min (ma_cons ha (ma_cons hb ma_nil hs2) (by rw [hs, hs2])) hm (by decide +kernel) hg (by decide) (by decide) (by rw [hs, hs2]) (by rw [hs2]; rfl)
def fAbs : FA
  | [.int i], S => some (.int (if i < 0 then -i else i), S)
  | _, _ => none
theorem me_abs {e : Expr} {m : Mx} {p : Pos} (hm : X.mg "abs" = none) (ha : ME X W e m) (hg : Gl X "abs" := by rfl) (hs : starEach [e] X.env = [(false, eval e X.env)] := by rfl) : ME X W (.Call (.Name "abs" p) [e] [] pos) (mCB fAbs (mCons m mNil)) :=
  me_cb call_abs (fun β H S xs vs d S' Q r hv e k => by
    match xs, e, hv with
    | [.int i], e, hv =>
      obtain ⟨v, rfl, h⟩ := hv.one
      cases h
      cases e
      exact ⟨i, rfl, k β H _ .refl r (.int _)⟩) (ma_cons ha ma_nil hs) hm (by decide +kernel) hg (by decide) (by decide) hs rfl
def fOrd : FA
  | [.str x], S => if x.length = 1 then some (.int (x.cps.getD 0 0 : Nat), S) else none
  | _, _ => none
theorem me_ord {e : Expr} {m : Mx} {p : Pos} (hm : X.mg "ord" = none) (ha : ME X W e m) (hg : Gl X "ord" := by rfl) (hs : starEach [e] X.env = [(false, eval e X.env)] := by rfl) : ME X W (.Call (.Name "ord" p) [e] [] pos) (mCB fOrd (mCons m mNil)) :=
  me_cb call_ord (fun β H S xs vs d S' Q r hv e k => by
    match xs, e, hv with
    | [.str x], e, hv =>
      obtain ⟨v, rfl, h⟩ := hv.one
      cases h
      unfold fOrd at e
      dsimp only at e
      split at e
      · rename_i hl
        cases e
        exact ⟨x, rfl, hl, k β H _ .refl r (.int _)⟩
      · cases e) (ma_cons ha ma_nil hs) hm (by decide +kernel) hg (by decide) (by decide) hs rfl
/-- list(xs): a new list of a list or tuple -/
def seqD (S : Sto) : D → Option (List D)
  | .tup ds => some ds
  | .ref n => lstAt S n
  | _ => none
def fList : FA
  | [d], S => (seqD S d).map fun ds => (.ref S.length, S ++ [.lst ds])
  | _, _ => none
theorem seqD_ok {K : PySem.W.Frag} {mg : Str → Option Value} {β : List Addr} {H : Hp} {S : Sto} {v : V} {d : D} {ds : List D} (r : Rl K mg β H S) (h : Vd K mg β H v d) (e : seqD S d = some ds) : ∃ p ys, v = .ref p ∧ (SqL K H p ys ∨ H p = some (.tup ys)) ∧ Vds K mg β H ys ds := by
  cases d with
  | tup xs =>
    cases e
    obtain ⟨a, us, rfl, h1, h2⟩ := h.tup_at
    exact ⟨a, us, rfl, .inr h1, h2⟩
  | ref n =>
    obtain ⟨a, rfl, h1⟩ := h.ref_inv
    obtain ⟨us, h2, h3⟩ := lst_read r h1 e
    exact ⟨a, us, rfl, .inl h2, h3⟩
  | _ => cases e
theorem me_list1 {e : Expr} {m : Mx} {p : Pos} (hm : X.mg "list" = none) (ha : ME X W e m) (hg : Gl X "list" := by rfl) (hs : starEach [e] X.env = [(false, eval e X.env)] := by rfl) : ME X W (.Call (.Name "list" p) [e] [] pos) (mCB fList (mCons m mNil)) :=
  me_cty call_list_of (fun β H S xs vs d S' Q r hv e k => by
    match xs, e, hv with
    | [x], e, hv =>
      obtain ⟨v, rfl, h⟩ := hv.one
      unfold fList at e
      dsimp only at e
      cases q : seqD S x with
      | none => rw [q] at e; cases e
      | some ds =>
        rw [q] at e
        cases e
        obtain ⟨p, ys, rfl, h1, h2⟩ := seqD_ok r h q
        refine ⟨p, ys, rfl, h1.imp id .of, fun l hl => ?_⟩
        obtain ⟨x1, r1, v1⟩ := r.newL h2 hl
        exact k _ _ _ x1 r1 v1) (ma_cons ha ma_nil hs) hm (by decide +kernel) hg (by decide) (by decide) hs rfl
def fTuple : FA
  | [d], S => (seqD S d).map fun ds => (.tup ds, S)
  | _, _ => none
theorem me_tuple1 {e : Expr} {m : Mx} {p : Pos} (hm : X.mg "tuple" = none) (ha : ME X W e m) (hg : Gl X "tuple" := by rfl) (hs : starEach [e] X.env = [(false, eval e X.env)] := by rfl) : ME X W (.Call (.Name "tuple" p) [e] [] pos) (mCB fTuple (mCons m mNil)) :=
  me_cty call_tuple_of (fun β H S xs vs d S' Q r hv e k => by
    match xs, e, hv with
    | [x], e, hv =>
      obtain ⟨v, rfl, h⟩ := hv.one
      unfold fTuple at e
      dsimp only at e
      cases q : seqD S x with
      | none => rw [q] at e; cases e
      | some ds =>
        rw [q] at e
        cases e
        obtain ⟨p, ys, rfl, h1, h2⟩ := seqD_ok r h q
        refine ⟨p, ys, rfl, ?_⟩
        rcases h1 with h1 | h1
        · exact .inl ⟨h1, fun l hl => k β _ _ (xt_new' hl) (r.tup hl) (.tup upd_same (h2.ext (xt_new' hl)))⟩
        · exact .inr ⟨.of h1, k β H _ .refl r (.tup h1 h2)⟩) (ma_cons ha ma_nil hs) hm (by decide +kernel) hg (by decide) (by decide) hs rfl
end
end Eng

/-! The engine, part 5: methods of built-in types, defs and their calls, comprehensions. -/
namespace Eng
open PySem PySem.Spec PyProof.Rows L2
variable [TabCfg]
section
variable {X : Cx} {W : WX} {pos : Pos}
/-! ### o.m(..), m a built-in's method -/
abbrev FM := D → List D → Sto → Option (D × Sto)
def mBM (ck : D → Sto → Bool) (f : FM) (mo : Mx) (ma : Ma) : Mx := fun ρ S => (mo ρ S).bind fun o S1 => if ck o S1 = true then (ma ρ S1).bind fun ds S2 => R.ofO (f o ds S2) else .stuck
def OpM (X : Cx) (T : String) (ck : D → Sto → Bool) (r : V → List V → Hp → VK → Prop) (f : FM) : Prop :=
  (∀ β H S o v, Rl X.K X.mg β H S → Vd X.K X.mg β H v o → ck o S = true → tyV X.K T v H) ∧
  ∀ β H S o v xs vs d S' Q, Rl X.K X.mg β H S → Vd X.K X.mg β H v o → Vds X.K X.mg β H vs xs → f o xs S = some (d, S') →
    (∀ β' H' w, Xt X.K β H β' H' → Rl X.K X.mg β' H' S' → Vd X.K X.mg β' H' w d → Q w H') → r v vs H Q
section
variable {T id : String} {r : V → List V → Hp → VK → Prop} {ck : D → Sto → Bool} {f : FM} {o e : Expr} {es : List Expr} {mo : Mx} {ma : Ma} {name : Str} {apos : Pos}
theorem me_bm (pa : PlainAttrs T) (slot : Slot T name id) (hty : typeOf (.builtin id) = pure (.type "method_descriptor")) (hm : MtR X id r) (hf : OpM X T ck r f) (ho : ME X W o mo) (ha : MA X W (e :: es) ma)
    (hbase : attributeBase o name X.env (eval o X.env) = eval o X.env := by rfl)
    (hfew : ((backTo pos (starEach (e :: es) X.env)).all (fun x => !x.1) && (backToKw pos (keywordEach [] X.env)).all (fun x => x.1.isSome) && decide ((e :: es).length + ([] : List Keyword).length + (if ([] : List Keyword).isEmpty then 0 else 1) < 30)) = true := by rfl)
    (hline : (apos.endLine == pos.line) = true := by rfl) (hs : starEach (e :: es) X.env = (false, eval e X.env) :: starEach es X.env := by rfl) (hplain : (backTo pos (starEach es X.env)).any (·.1) = false := by rfl) :
    ME X W (.Call (.Attribute o name apos) (e :: es) [] pos) (mBM ck f mo ma) := by
  refine ⟨PE.weak (pe_bm pa slot hty hm ho.pe ha.pa hbase hfew hline hs hplain) fun σ H Q ⟨β, S, ρ, rl, en, p⟩ => ⟨β, S, ρ, rl, en, p.bind.mono fun d β1 S1 H1 x1 r1 q v hv => ?_⟩⟩
  split at q
  · rename_i hk
    refine ⟨hf.1 β1 H1 S1 d v r1 hv hk, β1, S1, ρ, r1, en.ext x1, q.bind.mono fun ds β2 S2 H2 x2 r2 q2 vs hvs => ?_⟩
    obtain ⟨z, S3, e3, k⟩ := q2.ofO
    exact hf.2 β2 H2 S2 d v ds vs z S3 Q r2 (hv.ext x2) hvs e3 fun β' H' w x r hw => k β' H' x r w hw
  · exact q.elim
theorem me_bm0 (pa : PlainAttrs T) (slot : Slot T name id) (hty : typeOf (.builtin id) = pure (.type "method_descriptor")) (hm : MtR X id r) (hf : OpM X T ck r f) (ho : ME X W o mo)
    (hbase : attributeBase o name X.env (eval o X.env) = eval o X.env := by rfl) (hline : (apos.endLine == pos.line) = true := by rfl) :
    ME X W (.Call (.Attribute o name apos) [] [] pos) (mBM ck f mo mNil) := by
  refine ⟨PE.weak (pe_bm0 pa slot hty hm ho.pe hbase hline) fun σ H Q ⟨β, S, ρ, rl, en, p⟩ => ⟨β, S, ρ, rl, en, p.bind.mono fun d β1 S1 H1 x1 r1 q v hv => ?_⟩⟩
  split at q
  · rename_i hk
    refine ⟨hf.1 β1 H1 S1 d v r1 hv hk, ?_⟩
    have q1 : Po X.K X.mg W σ β1 H1 (R.ofO (f d [] S1)) _ := q
    obtain ⟨z, S3, e3, k⟩ := q1.ofO
    exact hf.2 β1 H1 S1 d v [] [] z S3 Q r1 hv .nil e3 fun β' H' w x r hw => k β' H' x r w hw
  · exact q.elim
end
def ckL : D → Sto → Bool := fun o S => match o with
  | .ref n => (lstAt S n).isSome
  | _ => false
theorem ckL_ok {β : List Addr} {H : Hp} {S : Sto} {o : D} {v : V} (r : Rl X.K X.mg β H S) (h : Vd X.K X.mg β H v o) (e : ckL o S = true) : tyV X.K "list" v H := by
  cases o with
  | ref n =>
    obtain ⟨a, rfl, h1⟩ := h.ref_inv
    obtain ⟨ds, q⟩ := Option.isSome_iff_exists.mp (show (lstAt S n).isSome = true from e)
    obtain ⟨us, h2, _⟩ := lst_read r h1 q
    exact .inl ⟨rfl, us, h2⟩
  | _ => cases e
def fAppend : FM
  | .ref n, [d], S => match S[n]? with
    | some (.lst xs) => if xs.length < sizeLine then some (.non, S.set n (.lst (xs ++ [d]))) else none
    | _ => none
  | _, _, _ => none
theorem o_append : OpM X "list" ckL rAppend fAppend := by
  refine ⟨fun β H S o v r h e => ckL_ok r h e, ?_⟩
  intro β H S o v xs vs d S' Q r ho hv e k
  match o, xs, e, ho, hv with
  | .ref n, [y], e, ho, hv =>
    obtain ⟨a, rfl, h1⟩ := ho.ref_inv
    obtain ⟨w, rfl, h2⟩ := hv.one
    unfold fAppend at e
    dsimp only at e
    split at e
    · rename_i ds q
      split at e
      · rename_i hl
        cases e
        obtain ⟨us, h3, h4⟩ := r.lst_at h1 q
        refine ⟨a, us, w, rfl, rfl, h3, by rw [h4.length]; exact hl, ?_⟩
        obtain ⟨r', x'⟩ := r.write (o := .lst (us ++ [w])) (b' := .lst (ds ++ [y])) h1 q rfl rfl fun x => ⟨_, upd_same, (h4.append (.cons h2 .nil)).ext x⟩
        exact k β _ _ x' r' .non
      · cases e
    · cases e
theorem me_append {o e : Expr} {mo m : Mx} {apos : Pos} (ho : ME X W o mo) (ha : ME X W e m) (hbase : attributeBase o "append" X.env (eval o X.env) = eval o X.env := by rfl)
    (hfew : ((backTo pos (starEach [e] X.env)).all (fun x => !x.1) && (backToKw pos (keywordEach [] X.env)).all (fun x => x.1.isSome) && decide ([e].length + ([] : List Keyword).length + (if ([] : List Keyword).isEmpty then 0 else 1) < 30)) = true := by rfl)
    (hline : (apos.endLine == pos.line) = true := by rfl) (hs : starEach [e] X.env = [(false, eval e X.env)] := by rfl) : ME X W (.Call (.Attribute o "append" apos) [e] [] pos) (mBM ckL fAppend mo (mCons m mNil)) :=
  me_bm PySem.F.plainAttrs_list PySem.F.slot_list_append PySem.F.type_list_append mt_append o_append ho (ma_cons ha ma_nil hs) hbase hfew hline hs rfl
end

/-! ### defs -/
def mDef (n : Nat) (b : Ms) : List D → Sto → R D := fun ds S => match b (ds.map some ++ List.replicate (n - ds.length) none) S with
  | .fl (.nx _) S' => .ok .non S'
  | .fl (.rt d) S' => .ok d S'
  | .ex x _ S' => .ex x S'
  | .stuck => .stuck
def spM (K : PySem.W.Frag) (mg : Str → Option Value) (n : Nat) (m : List D → Sto → R D) : Sp := fun vs H Q E => vs.length = n ∧ ∃ β S ds, Rl K mg β H S ∧ Vds K mg β H vs ds ∧
  match m ds S with
  | .ok d S' => ∀ β' H' v, Xt K β H β' H' → Rl K mg β' H' S' → Vd K mg β' H' v d → Q v H'
  | .ex x S' => ∀ cls od β' H', Xt K β H β' H' → Rl K mg β' H' S' → Xd K mg β' H' cls od x → E cls od H'
  | .stuck => False
section
variable {P : Program} {w : World} {K : PySem.W.Frag} {mg : Str → Option Value} {base : Heap}
theorem en_start {β : List Addr} {H : Hp} {vs : List V} {ds : List D} {N : List Str} (h : Vds K mg β H vs ds) : En K mg β H (ds.map some ++ List.replicate (N.length - ds.length) none) (L2.start N vs) := by
  have hl := h.length
  unfold L2.start
  refine ⟨by simp [hl], fun i d e => ?_⟩
  by_cases hi : i < ds.length
  · rw [List.getElem?_append_left (by simpa using hi), List.getElem?_map] at e
    rw [List.getElem?_append_left (by simp [hl]; exact hi), List.getElem?_map]
    cases q : ds[i]? with
    | none => rw [q] at e; cases e
    | some d' =>
      rw [q] at e
      cases e
      obtain ⟨v, h1, h2⟩ := h.get q
      exact ⟨v, by rw [h1]; rfl, h2⟩
  · rw [List.getElem?_append_right (by simp; omega), List.getElem?_replicate] at e
    split at e <;> cases e
theorem fn_ok {x qual : Str} {st : Stmt} {f : Addr} {fd : FuncData} {N ps : List Str} {k : Nat} {b : Ms} (F : Fun K x qual st f fd) (S : FnScope N ps (defScope st))
    (h : ∀ (cdv : Value) (A : Around) (outer : List Env) (s : Shared) (H : Hp) (E : XK), Room k (A.deeper (envOfC qual (defScope st) s.heap.objs.size f cdv)) →
      MSs (cxOf (L2.CX P w) P w K mg base N qual (defScope st) f cdv A outer s H E) (fun cls d _ H => E cls d H) (defBody st) b) : FnOk P w K mg base (L2.CX P w) (k + 1) f fd ps (spM K mg ps.length (mDef N.length b)) := by
  refine F.okX S (fun vs H Q E hq => hq.1) fun cdv A outer s H vs Q E hr ⟨_, β, S, ds, rl, hv, q⟩ => ⟨_, (h cdv A outer s H E hr).ps, β, S, _, rl, en_start hv, ?_⟩
  unfold mDef at q
  show PoS K mg _ β H (b (ds.map some ++ List.replicate (N.length - ds.length) none) S) _
  cases e : b (ds.map some ++ List.replicate (N.length - ds.length) none) S with
  | fl g S' =>
    rw [e] at q
    cases g with
    | nx ρ => exact fun β' H' σ' x r _ => q β' H' .non x r .non
    | rt d => exact fun β' H' v x r hv => q β' H' v x r hv
  | ex x ρ S' => rw [e] at q; exact fun cls od β' H' σ' y r _ hx => q cls od β' H' y r hx
  | stuck => rw [e] at q; exact q
/-- the promise by another name of the same meaning -/
theorem FnOk.as {k : Nat} {f : Addr} {fd : FuncData} {ps : List Str} {n : Nat} {m m' : List D → Sto → R D} (h : FnOk P w K mg base (L2.CX P w) k f fd ps (spM K mg n m)) (e : m = m') : FnOk P w K mg base (L2.CX P w) k f fd ps (spM K mg n m') := by
  subst e; exact h
end
section
variable {X : Cx} {W : WX} {pos p : Pos} {x : Str} {e : Expr} {es : List Expr} {ma : Ma} {k j : Nat} {f : Addr} {fd : FuncData} {ps : List Str} {n : Nat} {m : List D → Sto → R D}
def mCall (m : List D → Sto → R D) (ma : Ma) : Mx := fun ρ S => (ma ρ S).bind m
def mCall0 (m : List D → Sto → R D) : Mx := fun _ S => match m [] S with
  | .ok d S' => .ok d S'
  | _ => .stuck
theorem call_sp {σ : L2.St} {β : List Addr} {H : Hp} {S : Sto} {ds : List D} {vs : List V} {Q : VK} (hn : vs.length = n) (r : Rl X.K X.mg β H S) (hv : Vds X.K X.mg β H vs ds) (q : Po X.K X.mg W σ β H (m ds S) fun d β' _ H' => ∀ v, Vd X.K X.mg β' H' v d → Q v H') : spM X.K X.mg n m vs H Q (WE W σ) := by
  refine ⟨hn, β, S, ds, r, hv, ?_⟩
  cases e : m ds S with
  | ok d S' => rw [e] at q; exact fun β' H' v x r hv => q β' H' x r v hv
  | ex z S' => rw [e] at q; exact fun cls od β' H' x r hx => q cls od β' H' x r hx
  | stuck => rw [e] at q; exact q
theorem me_call (F : FnOk X.prog X.w X.K X.mg X.base (L2.CX X.prog X.w) k f fd ps (spM X.K X.mg n m)) (hr : Room j X.A) (hk : PySem.W.keepIn X.K (.ref f) = true) (hm : X.mg x = some (.ref f)) (hb : Binds X.K fd ps []) (tk : Takes X W) (ha : MA X W (e :: es) ma) (hl : ∀ β H vs ds ρ S S', Vds X.K X.mg β H vs ds → ma ρ S = .ok ds S' → vs.length = n)
    (hkj : k ≤ j := by decide) (hg : Gl X x := by rfl) (hdb : (x == ("__debug__" : Str)) = false := by decide) (he : starEach (e :: es) X.env = (false, eval e X.env) :: starEach es X.env := by rfl) (hpl : (backTo pos (starEach es X.env)).any (·.1) = false := by rfl) :
    ME X W (.Call (.Name x p) (e :: es) [] pos) (mCall m ma) := by
  refine ⟨PE.weak (pe_callS F (hr.mono hkj) hg hm hk hb (fun σ => passAt tk σ) ha.pa hdb he hpl) fun σ H Q ⟨β, S, ρ, rl, en, p⟩ => ⟨β, S, ρ, rl, en, ?_⟩⟩
  have q := (show Po X.K X.mg W σ β H ((ma ρ S).bind m) _ from p).bind
  cases e : ma ρ S with
  | ok ds S1 =>
    rw [e] at q
    exact fun β1 H1 x1 r1 vs hv => call_sp (hl β1 H1 vs ds ρ S S1 hv e) r1 hv (q β1 H1 x1 r1)
  | ex z S1 => rw [e] at q; exact q
  | stuck => rw [e] at q; exact q
theorem me_call0 (F : FnOk X.prog X.w X.K X.mg X.base (L2.CX X.prog X.w) k f fd ps (spM X.K X.mg 0 m)) (hr : Room j X.A) (hk : PySem.W.keepIn X.K (.ref f) = true) (hm : X.mg x = some (.ref f)) (hb : Binds X.K fd ps []) (hkj : k ≤ j := by decide) (hg : Gl X x := by rfl) (hdb : (x == ("__debug__" : Str)) = false := by decide) :
    ME X W (.Call (.Name x p) [] [] pos) (mCall0 m) := by
  refine ⟨PE.weak (pe_call0 (E := E0) F (hr.mono hkj) hg hm hk hb .nil passL hdb) fun σ H Q ⟨β, S, ρ, rl, en, p⟩ => ?_⟩
  refine ⟨rfl, β, S, [], rl, .nil, ?_⟩
  unfold mCall0 at p
  cases e : m [] S with
  | ok d S' => rw [e] at p; exact fun β' H' v x r hv => p β' H' x r v hv
  | ex z S' => rw [e] at p; exact p.elim
  | stuck => rw [e] at p; exact p
/-- how many arguments come -/
theorem len_cons {m1 : Mx} {mr : Ma} {n : Nat} (h : ∀ β H vs ds ρ S S', Vds X.K X.mg β H vs ds → mr ρ S = .ok ds S' → vs.length = n) : ∀ β H vs ds ρ S S', Vds X.K X.mg β H vs ds → mCons m1 mr ρ S = .ok ds S' → vs.length = n + 1 := by
  intro β H vs ds ρ S S' hv e
  unfold mCons at e
  cases q : m1 ρ S with
  | ok d S1 =>
    rw [q] at e
    cases q2 : mr ρ S1 with
    | ok es S2 =>
      have e' : (R.ok (d :: es) S2 : R (List D)) = .ok ds S' := by
        rw [← e]
        show _ = (mr ρ S1).bind _
        rw [q2]; rfl
      cases e'
      cases hv with
      | cons h1 t => exact congrArg (· + 1) (h β H _ _ ρ S1 _ t q2)
    | ex x S2 =>
      have e' : (R.ex x S2 : R (List D)) = .ok ds S' := by
        rw [← e]
        show _ = (mr ρ S1).bind _
        rw [q2]; rfl
      cases e'
    | stuck =>
      have e' : (R.stuck : R (List D)) = .ok ds S' := by
        rw [← e]
        show _ = (mr ρ S1).bind _
        rw [q2]; rfl
      cases e'
  | ex x S1 => rw [q] at e; cases e
  | stuck => rw [q] at e; cases e
theorem len_nil : ∀ β H vs ds ρ S S', Vds X.K X.mg β H vs ds → mNil ρ S = .ok ds S' → vs.length = 0 := by
  intro β H vs ds ρ S S' hv e
  cases e
  cases hv
  rfl
end

/-! ### comprehensions: one for over a name or names, at most one if -/
def wipeD (ρ : Env') : List Nat → Env'
  | [] => ρ
  | v :: vs => (wipeD ρ vs).set v none
def W0 : WX := fun _ _ _ _ => False
def mYes : Mb := fun _ S => .ok true S
def lcF (it : ItD) (f : Ft) (mt : Mb) (m : Mx) (ρ : Env') (n : Nat) : Nat → Nat → Sto → R D
  | 0, _, S => if it.fin S = true then .ok (.ref n) S else .stuck
  | k + 1, i, S => match it.nx i S with
    | none => .stuck
    | some d => match f d ρ with
      | none => .stuck
      | some ρ1 => match mt ρ1 S with
        | .ok false S1 => lcF it f mt m ρ n k (i + 1) S1
        | .ok true S1 => match m ρ1 S1 with
          | .ok y S2 => match S2[n]? with
            | some (.lst acc) => if acc.length < sizeLine then lcF it f mt m ρ n k (i + 1) (S2.set n (.lst (acc ++ [y]))) else .stuck
            | _ => .stuck
          | _ => .stuck
        | _ => .stuck
def mLc (mi : Mi) (f : Ft) (mt : Mb) (m : Mx) (own : List Nat) : Mx := fun ρ S => (mi ρ S).bind fun it S1 => lcF it f mt m (wipeD ρ own) S1.length it.cnt 0 (S1 ++ [.lst []])
section
variable {K : PySem.W.Frag} {mg : Str → Option Value} {β : List Addr} {H : Hp} {ρ : Env'} {σ : L2.St}
theorem En.wipe (e : En K mg β H ρ σ) : ∀ own : List Nat, En K mg β H (wipeD ρ own) (L2.wipe σ own)
  | [] => e
  | v :: vs => by
    have ih := En.wipe e vs
    unfold wipeD L2.wipe
    refine ⟨by rw [List.length_set, List.length_set]; exact ih.len, fun j d q => ?_⟩
    by_cases hj : v = j
    · subst hj
      by_cases hl : v < (wipeD ρ vs).length
      · rw [List.getElem?_set_self hl] at q; cases q
      · rw [List.getElem?_eq_none (by rw [List.length_set]; omega)] at q; cases q
    · rw [List.getElem?_set_ne hj] at q ⊢
      exact ih.at' j d q
theorem wipe_set {i : Nat} {x : Option V} : ∀ {own : List Nat} {σ : L2.St}, i ∈ own → L2.wipe (σ.set i x) own = L2.wipe σ own
  | [], _, h => by cases h
  | v :: vs, σ, h => by
    unfold L2.wipe
    by_cases hv : v = i
    · subst hv
      by_cases hm : v ∈ vs
      · rw [wipe_set hm]
      · have comm : ∀ (l : List Nat) (σ : L2.St), v ∉ l → L2.wipe (σ.set v x) l = (L2.wipe σ l).set v x := by
          intro l
          induction l with
          | nil => intro σ _; rfl
          | cons b l ih =>
            intro σ hb
            have h1 : b ≠ v := fun e => hb (by rw [e]; exact List.mem_cons_self)
            have h2 : v ∉ l := fun e => hb (List.mem_cons_of_mem _ e)
            unfold L2.wipe
            rw [ih σ h2, List.set_comm _ _ (fun e => h1 e.symm)]
        rw [comm vs σ hm, List.set_set]
    · rcases List.mem_cons.mp h with e | e
      · exact absurd e.symm hv
      · rw [wipe_set e]
/-- the slots that a target of names sets -/
def setAllV : List Nat → List V → L2.St → L2.St
  | i :: is, v :: vs, σ => setAllV is vs (σ.set i (some v))
  | _, _, σ => σ
theorem wipe_setAll : ∀ {is : List Nat} {vs : List V} {σ : L2.St} {own : List Nat}, (∀ i ∈ is, i ∈ own) → L2.wipe (setAllV is vs σ) own = L2.wipe σ own
  | [], _, _, _, _ => rfl
  | _ :: _, [], _, _, _ => rfl
  | i :: is, v :: vs, σ, own, h => by
    unfold setAllV
    rw [wipe_setAll (fun j hj => h j (List.mem_cons_of_mem _ hj)), wipe_set (h i List.mem_cons_self)]
theorem wipe_wipe : ∀ {own l : List Nat} {σ : L2.St}, (∀ i ∈ l, i ∈ own) → L2.wipe (L2.wipe σ l) own = L2.wipe σ own
  | _, [], _, _ => rfl
  | own, v :: vs, σ, h => by
    show L2.wipe ((L2.wipe σ vs).set v none) own = _
    rw [wipe_set (h v List.mem_cons_self), wipe_wipe fun j hj => h j (List.mem_cons_of_mem _ hj)]
theorem En.setAll : ∀ {is : List Nat} {vs : List V} {ds : List D} {ρ : Env'} {σ : L2.St}, En K mg β H ρ σ → Vds K mg β H vs ds → En K mg β H (setAll is ds ρ) (setAllV is vs σ)
  | [], _, _, _, _, e, _ => e
  | _ :: _, _, _, _, _, e, .nil => e
  | i :: is, _ :: vs, _ :: ds, ρ, σ, e, .cons h t => En.setAll (is := is) (vs := vs) (ds := ds) (e.set i h) t
end
/-- a comprehension's target: which slots it sets, the rest as it is -/
structure MGc (X : Cx) (tg : Expr) (is : List Nat) (f : Ft) : Prop where
  pg : PG X tg (fun v σ H Q => ∃ β S ρ d ρ', Rl X.K X.mg β H S ∧ En X.K X.mg β H ρ σ ∧ Vd X.K X.mg β H v d ∧ f d ρ = some ρ' ∧ ∀ vs, En X.K X.mg β H ρ' (setAllV is vs σ) → Q (setAllV is vs σ) H)
section
variable {X : Cx} {W : WX} {pos : Pos}
theorem mgc_name {i : Nat} {x : Str} (hN : X.N.Nodup) (hi : X.N[i]? = some x := by rfl) (hx : Loc X.env.scope x := by first | exact .inl rfl | exact .inr rfl) (hf : X.fn x = true ∨ X.env.scope.names.lookup x = some .local := by first | exact .inl rfl | exact .inr rfl) : MGc X (.Name x pos) [i] (fName i) :=
  ⟨PG.weak (pg_name hN hi hx hf) fun v σ H Q ⟨β, S, ρ, d, ρ', rl, en, hv, e, q⟩ => by
    cases e
    exact q [v] (en.set i hv)⟩
structure MGcs (X : Cx) (ts : List Expr) (is : List Nat) : Prop where
  pgs : PGs X ts (fun vs σ H Q => vs.length = is.length ∧ Q (setAllV is vs σ) H)
theorem mgcs_nil : MGcs X [] [] := ⟨PGs.weak pgs_nil fun vs σ H Q ⟨hl, q⟩ => by
  cases vs with
  | nil => exact ⟨rfl, q⟩
  | cons v vs => cases hl⟩
theorem mgcs_cons {i : Nat} {is : List Nat} {x : Str} {es : List Expr} (h2 : MGcs X es is) (hN : X.N.Nodup) (hi : X.N[i]? = some x := by rfl) (hx : Loc X.env.scope x := by first | exact .inl rfl | exact .inr rfl) (hf : X.fn x = true ∨ X.env.scope.names.lookup x = some .local := by first | exact .inl rfl | exact .inr rfl)
    (hs : (assignEach (.Name x pos :: es) X.env).map (·.2) = assign (.Name x pos) X.env :: (assignEach es X.env).map (·.2) := by rfl) : MGcs X (.Name x pos :: es) (i :: is) := by
  refine ⟨PGs.weak (pgs_cons (pg_name hN hi hx hf) h2.pgs hs) fun vs σ H Q ⟨hl, q⟩ => ?_⟩
  cases vs with
  | nil => cases hl
  | cons v vs => exact ⟨v, vs, rfl, Nat.succ.inj hl, q⟩
theorem mgc_tup {es : List Expr} {k : Nat} {is : List Nat} (h : MGcs X es is) (hc : X.calm = true := by rfl)
    (hn : (assignEach es X.env).length = is.length := by rfl) (hst : (assignEach es X.env).findIdx? (·.1) = none := by rfl) : MGc X (.Tuple es k pos) is (fNames is) :=
  ⟨PG.weak (pg_tup hc h.pgs hn hst) fun v σ H Q ⟨β, S, ρ, d, ρ', rl, en, hv, e, q⟩ => by
    cases d with
    | tup ds =>
      unfold fNames at e
      dsimp only at e
      split at e
      · rename_i hl
        cases e
        obtain ⟨a, xs, rfl, h1, h2⟩ := hv.tup_inv
        have hxl : xs.length = is.length := by rw [h2.length]; exact hl
        exact ⟨a, xs, rfl, h1, hxl, hxl, q xs (en.setAll h2)⟩
      · cases e
    | _ => cases e⟩
structure MTs (X : Cx) (W : WX) (ifs : List Expr) (m : Mb) : Prop where
  pts : PTs X ifs (tMT X.K X.mg W m)
theorem PTs.weak {e : List Expr} {t t' : TT} (h : PTs X e t) (i : ∀ σ H Q, t' σ H Q → t σ H Q) : PTs X e t' := ⟨fun pins s σ H Q I q => h.run pins s σ H Q I (i σ H Q q)⟩
theorem mts_nil : MTs X W [] mYes := ⟨PTs.weak pts_nil fun σ H Q ⟨β, S, ρ, rl, en, p⟩ => p β H .refl rl⟩
theorem mts_one {c : Expr} {m : Mb} (h : MT X W c m) : MTs X W [c] m := ⟨pts_one h.pt⟩
theorem tW0_ok {α : Type} {K : PySem.W.Frag} {mg : Str → Option Value} {σ : L2.St} {β : List Addr} {H : Hp} {r : R α} {d : α} {S : Sto} {G : α → List Addr → Sto → Hp → Prop} (e : r = .ok d S) (g : ∀ β' H', Xt K β H β' H' → Rl K mg β' H' S → G d β' S H') : Po K mg W0 σ β H r G := by
  subst e
  exact g
/-- the reading of the rule from the meaning -/
theorem lc_of {mi : Mi} {f : Ft} {mt : Mb} {m : Mx} {own is : List Nat} {g : TG} (hg : ∀ v σ H Q, (∃ β S ρ d ρ', Rl X.K X.mg β H S ∧ En X.K X.mg β H ρ σ ∧ Vd X.K X.mg β H v d ∧ f d ρ = some ρ' ∧ ∀ vs, En X.K X.mg β H ρ' (setAllV is vs σ) → Q (setAllV is vs σ) H) → g v σ H Q) (his : ∀ i ∈ is, i ∈ own) {σ : L2.St} {H : Hp} {Q : VK} (h : tM X.K X.mg W (mLc mi f mt m own) σ H Q) :
    tLc (tMI X.K X.mg W mi) g (tMT X.K X.mg W0 mt) (tM X.K X.mg W0 m) own σ H Q := by
  obtain ⟨β, S, ρ, rl, en, p⟩ := h
  refine ⟨β, S, ρ, rl, en, (Po.bind p).mono fun it β1 S1 H1 x1 r1 q J hJ Dl hD => ?_⟩
  obtain ⟨xn, rn, vn⟩ := r1.newL (ds := []) (vs := []) .nil hD
  -- the list's own place stays
  refine ⟨fun i k H => ∃ β S, Xt X.K β1 H1 β H ∧ β[S1.length]? = some Dl ∧ Rl X.K X.mg β H S ∧ i + k = it.cnt ∧ Po X.K X.mg W σ β H (lcF it f mt m (wipeD ρ own) S1.length k i S) (fun d β' _ H' => ∀ v, Vd X.K X.mg β' H' v d → Q v H'), ⟨it.cnt, β1 ++ [Dl], S1 ++ [.lst []], xn, ?_, rn, Nat.zero_add _, q.xt xn⟩, ?_⟩
  · obtain ⟨a, e, h1⟩ := vn.ref_inv
    cases e
    exact h1
  rintro i k H2 ⟨β2, S2, x2, hL, r2, hm, p2⟩
  obtain ⟨h1, h2⟩ := hJ β2 H2 S2 x2 r2
  cases k with
  | zero =>
    unfold lcF at p2
    split at p2
    · rename_i hf
      have e : i = it.cnt := by omega
      subst e
      exact .inl ⟨h2 hf, p2 β2 H2 .refl r2 _ (.ref hL)⟩
    · exact p2.elim
  | succ k =>
    unfold lcF at p2
    cases e1 : it.nx i S2 with
    | none => rw [e1] at p2; exact p2.elim
    | some d =>
      rw [e1] at p2
      dsimp only at p2
      cases e2 : f d (wipeD ρ own) with
      | none => rw [e2] at p2; exact p2.elim
      | some ρ1 =>
        rw [e2] at p2
        dsimp only at p2
        obtain ⟨go, yld⟩ := h1 i d (by omega) e1
        refine .inr ⟨go, fun H => ∃ β S, Xt X.K β1 H1 β H ∧ β[S1.length]? = some Dl ∧ Rl X.K X.mg β H S ∧ (i + 1) + k = it.cnt ∧ Po X.K X.mg W σ β H (lcF it f mt m (wipeD ρ own) S1.length k (i + 1) S) (fun d β' _ H' => ∀ v, Vd X.K X.mg β' H' v d → Q v H'), fun H' w => ⟨k, Nat.lt_succ_self k, w⟩, fun v H3 hy => ?_⟩
        obtain ⟨x3, r3, hv⟩ := yld v H3 hy
        refine hg v _ H3 _ ⟨β2, S2, wipeD ρ own, d, ρ1, r3, ((en.ext (x1.trans (x2.trans x3))).wipe own), hv, e2, fun vs en2 => ⟨?_, β2, S2, ρ1, r3, en2, ?_⟩⟩
        · rw [wipe_setAll his, wipe_wipe fun i hi => hi]
        · cases e3 : mt ρ1 S2 with
          | ok b S3 =>
            rw [e3] at p2
            intro β4 H4 x4 r4
            cases b with
            | false =>
              rw [if_neg Bool.false_ne_true]
              exact ⟨β4, S3, (x2.trans x3).trans x4, x4.at' (x3.at' hL), r4, by omega, Po.xt p2 (x3.trans x4)⟩
            | true =>
              rw [if_pos rfl]
              dsimp only at p2
              refine ⟨β4, S3, ρ1, r4, en2.ext x4, ?_⟩
              cases e4 : m ρ1 S3 with
              | ok y S4 =>
                rw [e4] at p2
                dsimp only at p2
                intro β5 H5 x5 r5 w hw
                have hL5 : β5[S1.length]? = some Dl := x5.at' (x4.at' (x3.at' hL))
                split at p2
                · rename_i acc q4
                  split at p2
                  · rename_i hz
                    obtain ⟨us, h3, h4⟩ := r5.lst_at hL5 q4
                    obtain ⟨r6, x6⟩ := r5.write (o := .lst (us ++ [w])) (b' := .lst (acc ++ [y])) hL5 q4 rfl rfl fun x => ⟨_, upd_same, (h4.append (.cons hw .nil)).ext x⟩
                    exact ⟨us, h3, by rw [h4.length]; exact hz, β5, _, (((x2.trans x3).trans x4).trans x5).trans x6, x6.at' hL5, r6, by omega, Po.xt p2 (((x3.trans x4).trans x5).trans x6)⟩
                  · exact p2.elim
                · exact p2.elim
              | ex z S4 => rw [e4] at p2; exact p2.elim
              | stuck => rw [e4] at p2; exact p2.elim
          | ex z S3 => rw [e3] at p2; exact p2.elim
          | stuck => rw [e3] at p2; exact p2.elim
theorem me_lc {elt tg iter : Expr} {ifs : List Expr} {scope : Scope} {own : List (Str × Nat)} {mi : Mi} {f : Ft} {mt : Mb} {m : Mx} {is : List Nat} (hN : X.N.Nodup) (hi : MI X W tg iter mi) (ok : BlkOk X.N X.env.scope scope own)
    (hg : ∀ (s : Shared) (H : Hp) (C : Addr) (cl : List (Str × Addr)) (fp : List Addr), MGc (X.blk s H scope (compEnvC scope cl C X.env) fp) tg is f)
    (ht : ∀ (s : Shared) (H : Hp) (C : Addr) (cl : List (Str × Addr)) (fp : List Addr), MTs (X.blk s H scope (compEnvC scope cl C X.env) fp) W0 ifs mt)
    (he : ∀ (s : Shared) (H : Hp) (C : Addr) (cl : List (Str × Addr)) (fp : List Addr), ME (X.blk s H scope (compEnvC scope cl C X.env) fp) W0 elt m)
    (his : ∀ i ∈ is, i ∈ own.map (·.2) := by decide) (hc : X.calm = true := by rfl) (hs : ∀ x, foldedSetIterable iter X.env x = pure x := by intro _; rfl) :
    ME X W (.ListComp elt [⟨tg, iter, ifs, 0⟩] scope pos) (mLc mi f mt m (own.map (·.2))) :=
  ⟨PE.weak (pe_lc hc hN hi.pi ok (fun s H C cl fp => (hg s H C cl fp).pg) (fun s H C cl fp => (ht s H C cl fp).pts) (fun s H C cl fp => (he s H C cl fp).pe) hs) fun σ H Q h => lc_of (fun v σ H Q h => h) his h⟩
theorem ms_setLc {i : Nat} {y : Str} {py spos : Pos} {elt tg iter : Expr} {ifs : List Expr} {scope : Scope} {own : List (Str × Nat)} {mi : Mi} {f : Ft} {mt : Mb} {m : Mx} {is : List Nat} (hN : X.N.Nodup) (hi : MI X W tg iter mi) (ok : BlkOk X.N X.env.scope scope own)
    (hg : ∀ (s : Shared) (H : Hp) (C : Addr) (cl : List (Str × Addr)) (fp : List Addr), MGc (X.blk s H scope (compEnvC scope cl C X.env) fp) tg is f)
    (ht : ∀ (s : Shared) (H : Hp) (C : Addr) (cl : List (Str × Addr)) (fp : List Addr), MTs (X.blk s H scope (compEnvC scope cl C X.env) fp) W0 ifs mt)
    (he : ∀ (s : Shared) (H : Hp) (C : Addr) (cl : List (Str × Addr)) (fp : List Addr), ME (X.blk s H scope (compEnvC scope cl C X.env) fp) W0 elt m)
    (hsw : swapsWith (.ListComp elt [⟨tg, iter, ifs, 0⟩] scope pos) (some (.Name y py)) spos.line X.env = pure true) (hy : X.N[i]? = some y := by rfl) (hyl : X.env.scope.names.lookup y = some .local := by rfl)
    (his : ∀ i ∈ is, i ∈ own.map (·.2) := by decide) (hc : X.calm = true := by rfl) (hs : ∀ x, foldedSetIterable iter X.env x = pure x := by intro _; rfl) :
    MS X W (.Assign [.Name y py] (.ListComp elt [⟨tg, iter, ifs, 0⟩] scope pos) spos) (sAsg i (mLc mi f mt m (own.map (·.2)))) :=
  ⟨PS.weak (ps_setLc (i := i) hc hN hy hyl hsw hi.pi ok (fun s H C cl fp => (hg s H C cl fp).pg) (fun s H C cl fp => (ht s H C cl fp).pts) (fun s H C cl fp => (he s H C cl fp).pe) hs) fun D σ H h => lc_of (fun v σ H Q h => h) his (asg_of h)⟩
end
end Eng

/-! The engine, part 6: the law's own end. -/
namespace Eng
open PySem PySem.Spec PyProof.Rows L2
variable [TabCfg]
section
variable {X : Cx} {W : WX} {pos : Pos}
theorem me_glI' {x : Str} {i : Int} (hg : Gl X x) (hm : ∃ t, X.mg x = some (.int i t)) (hdb : (x == ("__debug__" : Str)) = false := by decide) : ME X W (.Name x pos) (mC (.int i)) := let ⟨_, h⟩ := hm; me_glI hg h hdb
theorem me_glS' {x z : Str} (hg : Gl X x) (hm : ∃ t, X.mg x = some (.str z t)) (hdb : (x == ("__debug__" : Str)) = false := by decide) : ME X W (.Name x pos) (mC (.str z)) := let ⟨_, h⟩ := hm; me_glS hg h hdb
/-! ### n.bit_length() -/
def fBits : F1
  | .int i, S => some (.int (Builtin.Int.intBits i : Nat), S)
  | _, _ => none
theorem me_bits {o : Expr} {m : Mx} {apos : Pos} (ho : ME X W o m) (hbase : attributeBase o "bit_length" X.env (eval o X.env) = eval o X.env := by rfl) (hline : (apos.endLine == pos.line) = true := by rfl) : ME X W (.Call (.Attribute o "bit_length" apos) [] [] pos) (mUn fBits m) := by
  refine ⟨PE.weak (pe_bits ho.pe hbase hline) fun σ H Q ⟨β, S, ρ, rl, en, p⟩ => ⟨β, S, ρ, rl, en, p.bind.mono fun d β1 S1 H1 x1 r1 q v hv => ?_⟩⟩
  obtain ⟨z, S3, e3, k⟩ := q.ofO
  cases d with
  | int i => cases hv; cases e3; exact ⟨i, rfl, k β1 H1 .refl r1 _ (.int _)⟩
  | _ => cases e3
end
/-! ### the end -/
/-- what is asked of the law's own def -/
def spL (K : PySem.W.Frag) : Sp := fun vs H Q _ => ∃ (a : Addr) (ns : List Int), vs = [.ref a] ∧ ns.length ≤ 63 ∧ Only H ∧ SqL K H a (ns.map V.int) ∧ ∀ H', Q (.bl true) H'
theorem vds_ints {K : PySem.W.Frag} {mg : Str → Option Value} {β : List Addr} {H : Hp} : ∀ ns : List Int, Vds K mg β H (ns.map V.int) (ns.map D.int)
  | [] => .nil
  | n :: ns => .cons (.int n) (vds_ints ns)
theorem law_end (h0 : TabCfg.tabs = []) {P : Program} {w : World} {K : PySem.W.Frag} {mg : Str → Option Value} {base : Heap} {k : Nat} {f : Addr} {fd : FuncData} {ps : List Str} {m : List D → Sto → R D} (F : FnOk P w K mg base (L2.CX P w) k f fd ps (spM K mg 1 m))
    (h : ∀ ns : List Int, ns.length ≤ 63 → ∃ S, m [.ref 0] [.rdl (ns.map D.int)] = .ok (.bl true) S) : FnOk P w K mg base (L2.CX P w) k f fd ps (spL K) := by
  refine F.imp fun vs H Q E ⟨a, ns, e, hl, hO, hS, q⟩ => ?_
  subst e
  refine ⟨rfl, [a], [.rdl (ns.map D.int)], [.ref 0], ⟨rfl, fun n b o h1 h2 => ?_, fun n m b o u h1 h2 h3 h4 w1 w2 => ?_, fun p hp => by rw [h0] at hp; cases hp⟩, .cons (.ref rfl) .nil, ?_⟩
  · match n, h1, h2 with
    | 0, h1, h2 =>
      cases h1
      cases h2
      refine ⟨_, ?_, vds_ints ns⟩
      rcases hS with (h | h) | h
      · rcases hO a with z | ⟨u, xs, z⟩
        · rw [h] at z; cases z
        · rw [h] at z; cases z
      · exact .inl h
      · exact .inr h
    | n + 1, h1, h2 => simp at h1
  · match n, m, h1, h2 with
    | 0, 0, _, _ => rfl
    | n + 1, _, h1, _ => simp at h1
    | 0, m + 1, _, h2 => simp at h2
  · obtain ⟨S, e⟩ := h ns hl
    rw [e]
    intro β' H' v _ _ hv
    cases hv
    exact q H'
theorem walk_eng {l : PySem.W.OpenLaw} {k : Nat} {q : Program} {loose : List Str} {XP : (Str → Option Value) → Heap → Prop} {YP : World → Heap → Prop} {d : DefRec} {K : Params → PySem.W.Frag} {x : Str}
    (hn : l.most = some 63) (hdf : d.params.defaults = []) (hr : Room k callerA) (hY : ∀ (w : World) (h : Heap), YP w h → (K w.params).In h)
    (F : ∀ (w : World) (mg : Str → Option Value) (fa : Addr) (h : Heap), (K w.params).In h → h.Ns mainGlobals mg → mg d.name = some (.ref fa) →
      ∃ fd : FuncData, (∀ (s : Shared) (u : Value), BindsTo s fd ⟨[u], []⟩ [(x, u)]) ∧ ∀ base : Heap, FnOk l.prog w (K w.params) mg base (L2.CX l.prog w) k fa fd [x] (spL (K w.params))) :
    PySem.W.WalkO q loose XP YP l.row.toRowW d [] (fun f vs => PySem.call f vs) :=
  L2.walk_of (n := 63) (k := k) (x := x) (CX := fun w => L2.CX l.prog w) (sp := fun w => spL (K w.params)) hn (by decide) hdf hr hY (fun w mg fa h a b c => let ⟨fd, h1, h2⟩ := F w mg fa h a b c; ⟨fd, h1, fun base _ _ => h2 base⟩)
    (fun _ H a ns hl hO hS => ⟨a, ns, rfl, hl, hO, hS, fun _ => rfl⟩) fun w H s e s' h => by
      obtain ⟨_, _, _, _, _, _, _, _, _, _, _, _, z⟩ := h
      exact z
end Eng

/-! The engine, part 7: rows for simp: the mirrors run by rewriting. -/
namespace Eng
/-- an equation by unfolding, kept as a step of its own -/
theorem nr {α : Sort u} {a b : α} (h : a = b) : a = b := by cases h; exact Eq.trans rfl (Eq.refl _)
open PySem PySem.Spec PyProof.Rows L2
section
variable {α γ : Type} {ρ : Env'} {S S' : Sto} {m ma mb mc : Mx} {ta tb : Mb} {a b : Ms} {f g : F2} {f1 : F1} {x y d : D} {i j : Int} {k n : Nat}
@[simp] theorem R.bind_ok (a : α) (f : α → Sto → R γ) : (R.ok a S).bind f = f a S := nr rfl
@[simp] theorem R.bind_ex (e : Exn) (f : α → Sto → R γ) : (R.ex e S).bind f = .ex e S := nr rfl
@[simp] theorem R.bind_stuck (f : α → Sto → R γ) : (R.stuck : R α).bind f = .stuck := nr rfl
@[simp] theorem R.st_ok (a : α) (f : α → Sto → RS) : (R.ok a S).st ρ f = f a S := nr rfl
@[simp] theorem R.st_ex (e : Exn) (f : α → Sto → RS) : (R.ex e S : R α).st ρ f = .ex e ρ S := nr rfl
@[simp] theorem R.st_stuck (f : α → Sto → RS) : (R.stuck : R α).st ρ f = .stuck := nr rfl
@[simp] theorem R.ofO_some (p : D × Sto) : R.ofO (some p) = .ok p.1 p.2 := nr rfl
@[simp] theorem R.ofO_none : R.ofO none = .stuck := nr rfl
@[simp] theorem ev_var : mVar k ρ S = getV ρ k S := nr rfl
@[simp] theorem getV_zero {r : Env'} : getV (some d :: r) 0 S = .ok d S := nr rfl
@[simp] theorem getV_succ {o : Option D} {r : Env'} : getV (o :: r) (k + 1) S = getV r k S := nr rfl
@[simp] theorem ev_c : mC d ρ S = .ok d S := nr rfl
@[simp] theorem ev_un : mUn f1 m ρ S = (m ρ S).bind fun x S1 => R.ofO (f1 x S1) := nr rfl
@[simp] theorem ev_bin : mBin f ma mb ρ S = (ma ρ S).bind fun x S1 => (mb ρ S1).bind fun y S2 => R.ofO (f x y S2) := nr rfl
@[simp] theorem asB_bl (b : Bool) : asB (.ok (.bl b) S) = .ok b S := nr rfl
@[simp] theorem asB_ex (e : Exn) : asB (.ex e S) = .ex e S := nr rfl
@[simp] theorem ev_TB : mTB m ρ S = asB (m ρ S) := nr rfl
@[simp] theorem ev_tru : mTru m ρ S = (m ρ S).bind fun d S1 => match truD d S1 with
  | some b => .ok b S1
  | none => .stuck := nr rfl
@[simp] theorem truD_non : truD .non S = some false := nr rfl
@[simp] theorem truD_bl (b : Bool) : truD (.bl b) S = some b := nr rfl
@[simp] theorem truD_int : truD (.int i) S = some (i != 0) := nr rfl
@[simp] theorem truD_tup (xs : List D) : truD (.tup xs) S = some (!xs.isEmpty) := nr rfl
@[simp] theorem ev_and : mAnd ta tb ρ S = (ta ρ S).bind fun c S1 => if c = true then tb ρ S1 else .ok false S1 := nr rfl
@[simp] theorem ev_or : mOr ta tb ρ S = (ta ρ S).bind fun c S1 => if c = true then .ok true S1 else tb ρ S1 := nr rfl
@[simp] theorem ev_not : mNot ta ρ S = (ta ρ S).bind fun c S1 => .ok (!c) S1 := nr rfl
@[simp] theorem ev_if : mIf ta ma mb ρ S = (ta ρ S).bind fun c S1 => if c = true then ma ρ S1 else mb ρ S1 := nr rfl
@[simp] theorem ev_andV : mAndV ma mb ρ S = (ma ρ S).bind fun d S1 => match truD d S1 with
  | some true => mb ρ S1
  | some false => .ok d S1
  | none => .stuck := nr rfl
@[simp] theorem ev_orV : mOrV ma mb ρ S = (ma ρ S).bind fun d S1 => match truD d S1 with
  | some true => .ok d S1
  | some false => mb ρ S1
  | none => .stuck := nr rfl
@[simp] theorem ev_notV : mNotV ma ρ S = (ma ρ S).bind fun d S1 => match truD d S1 with
  | some b => .ok (.bl (!b)) S1
  | none => .stuck := nr rfl
@[simp] theorem ev_chain : mChain f g ma mb mc ρ S = (ma ρ S).bind fun x S1 => (mb ρ S1).bind fun y S2 => (asB (R.ofO (f x y S2))).bind fun k S3 => if k = true then (mc ρ S3).bind fun z S4 => R.ofO (g y z S4) else .ok (.bl false) S3 := nr rfl
@[simp] theorem ev_nil : mNil ρ S = .ok [] S := nr rfl
@[simp] theorem ev_cons {mr : Ma} : mCons m mr ρ S = (m ρ S).bind fun d S1 => (mr ρ S1).bind fun ds S2 => .ok (d :: ds) S2 := nr rfl
theorem le_line {n : Nat} (h : n ≤ 1000000) : n ≤ sizeLine := by rw [sizeLine_eq]; omega
theorem lt_line {n : Nat} (h : n < 1000000) : n < sizeLine := by rw [sizeLine_eq]; omega
@[simp] theorem ev_tup {mr : Ma} : mTup mr ρ S = (mr ρ S).bind fun ds S1 => if ds.length ≤ 16777216 then .ok (.tup ds) S1 else .stuck := by
  unfold mTup
  rw [sizeLine_eq]
@[simp] theorem ev_lst {mr : Ma} : mLst mr ρ S = (mr ρ S).bind fun ds S1 => newL ds S1 := nr rfl
@[simp] theorem ev_newL {ds : List D} : newL ds S = if ds.length ≤ 16777216 then .ok (.ref S.length) (S ++ [.lst ds]) else .stuck := by
  unfold newL
  rw [sizeLine_eq]
@[simp] theorem ev_call {h : List D → Sto → R D} {mr : Ma} : mCall h mr ρ S = (mr ρ S).bind h := nr rfl
@[simp] theorem ev_CB {h : FA} {mr : Ma} : mCB h mr ρ S = (mr ρ S).bind fun ds S1 => R.ofO (h ds S1) := nr rfl
@[simp] theorem ev_BM {ck : D → Sto → Bool} {h : FM} {mr : Ma} : mBM ck h m mr ρ S = (m ρ S).bind fun o S1 => if ck o S1 = true then (mr ρ S1).bind fun ds S2 => R.ofO (h o ds S2) else .stuck := nr rfl
@[simp] theorem ev_O0 : mO0 ρ S = .ok none S := nr rfl
@[simp] theorem ev_O1 : mO1 m ρ S = (m ρ S).bind fun d S1 => match d with
  | .int i => .ok (some i) S1
  | _ => .stuck := nr rfl
@[simp] theorem ev_sl {ml mh : Mo} : mSl m ml mh ρ S = (m ρ S).bind fun d S1 => (ml ρ S1).bind fun lo S2 => (mh ρ S2).bind fun hi S3 => slD d lo hi S3 := nr rfl
/-! statements -/
@[simp] theorem ev_skip : sSkip ρ S = .fl (.nx ρ) S := nr rfl
@[simp] theorem ev_seq : sSeq a b ρ S = match a ρ S with
  | .fl (.nx ρ') S' => b ρ' S'
  | r => r := nr rfl
@[simp] theorem ev_expr : sExpr m ρ S = (m ρ S).st ρ fun _ S1 => .fl (.nx ρ) S1 := nr rfl
@[simp] theorem ev_ret : sRet m ρ S = (m ρ S).st ρ fun d S1 => .fl (.rt d) S1 := nr rfl
@[simp] theorem ev_retN : sRetN ρ S = .fl (.rt .non) S := nr rfl
@[simp] theorem ev_sif : sIf ta a b ρ S = (ta ρ S).st ρ fun k S1 => if k = true then a ρ S1 else b ρ S1 := nr rfl
@[simp] theorem ev_asg : sAsg k m ρ S = (m ρ S).st ρ fun d S1 => .fl (.nx (ρ.set k (some d))) S1 := nr rfl
@[simp] theorem ev_asgT {f : Ft} : sAsgT m f ρ S = (m ρ S).st ρ fun d S1 => match f d ρ with
  | some ρ' => .fl (.nx ρ') S1
  | none => .stuck := nr rfl
@[simp] theorem ev_aug : sAug k f m ρ S = match ρ[k]? with
  | some (some x) => (m ρ S).st ρ fun y S1 => match f x y S1 with
    | some (d, S2) => .fl (.nx (ρ.set k (some d))) S2
    | none => .stuck
  | _ => .stuck := nr rfl
@[simp] theorem ev_for {mi : Mi} {f : Ft} : sFor mi f b ρ S = (mi ρ S).st ρ fun it S1 => forF it f b it.cnt 0 ρ S1 := nr rfl
@[simp] theorem fName_ev : fName k d ρ = some (ρ.set k (some d)) := nr rfl
@[simp] theorem fNames_ev {is : List Nat} {ds : List D} : fNames is (.tup ds) ρ = if ds.length = is.length then some (setAll is ds ρ) else none := nr rfl
@[simp] theorem setAll_cons {i : Nat} {is : List Nat} {ds : List D} : setAll (i :: is) (d :: ds) ρ = setAll is ds (ρ.set i (some d)) := nr rfl
@[simp] theorem setAll_nil {ds : List D} : setAll [] ds ρ = ρ := by cases ds <;> rfl
@[simp] theorem ev_def {c : Nat} {b : Ms} {ds : List D} : mDef c b ds S = match b (ds.map some ++ List.replicate (c - ds.length) none) S with
  | .fl (.nx _) S' => .ok .non S'
  | .fl (.rt d) S' => .ok d S'
  | .ex x _ S' => .ex x S'
  | .stuck => .stuck := nr rfl
/-! operators -/
@[simp] theorem fI_int {C : Int → Int → Bool} {h : Int → Int → D} : fI C h (.int i) (.int j) S = if C i j = true then some (h i j, S) else none := nr rfl
@[simp] theorem cT_ev : cT i j = true := nr rfl
@[simp] theorem cdec_eq {p : Prop} [h : Decidable p] : cdec p = decide p := by
  unfold cdec
  congr
@[simp] theorem cPos_ev : cPos i j = cdec (0 < j) := nr rfl
@[simp] theorem cDiv_ev : cDiv i j = (cdec (0 < j) && cdec (j < 10000000000000000000000000000000000000000000000000000000000000000000000000000000000000000000000000000)) := nr rfl
@[simp] theorem cPow_ev : cPow i j = cdec (0 ≤ j ∧ j ≤ 1000000 ∧ i.natAbs < 2 ^ 64) := nr rfl
@[simp] theorem cShr_ev : cShr i j = cdec (0 ≤ j) := nr rfl
theorem in64_of (h : -18446744073709551616 < i ∧ i < 18446744073709551616) : in64 i = true := by
  exact cdec_is h
theorem cMul1_l (h : -18446744073709551616 < i ∧ i < 18446744073709551616) : cMul1 i j = true := by
  unfold cMul1
  rw [in64_of h]
  rfl
theorem cMul1_r (h : -18446744073709551616 < j ∧ j < 18446744073709551616) : cMul1 i j = true := by
  unfold cMul1
  rw [in64_of h, Bool.or_true]
  rfl
theorem bits_of (h : 0 < i) : Builtin.Int.intBits i = i.natAbs.log2 + 1 := by
  have h0 : (i == 0) = false := by
    rw [beq_eq_false_iff_ne]
    omega
  simp [Builtin.Int.intBits, h0]
theorem bits_le (h : i.natAbs < 2 ^ n) : Builtin.Int.intBits i ≤ n := by
  unfold Builtin.Int.intBits
  split
  · exact Nat.zero_le _
  · rename_i h0
    have h1 : i.natAbs ≠ 0 := by
      intro e
      apply h0
      rw [beq_iff_eq]
      omega
    exact (Nat.log2_lt h1).mpr h
theorem cShl_of (h0 : 0 ≤ j) (h : i.natAbs < 2 ^ n) (hn : (n : Int) + j ≤ 134217728) : cShl i j = true := by
  have := bits_le h
  have e : (2 : Int) ^ 27 = 134217728 := by decide
  refine cdec_is ⟨h0, ?_⟩
  rw [e]
  omega
/-- 1 << j -/
@[simp] theorem cShl_one : cShl 1 j = cdec (0 ≤ j ∧ j ≤ 134217727) := by
  have e : (2 : Int) ^ 27 = 134217728 := by decide
  unfold cShl
  rw [e, show Builtin.Int.intBits 1 = 1 from by decide]
  congr 1
  refine propext ⟨fun h => ⟨h.1, by omega⟩, fun h => ⟨h.1, by omega⟩⟩
@[simp] theorem fSub_ev : fSub (.int i) (.int j) S = some (.int (i - j), S) := nr rfl
@[simp] theorem fDiv_ev : fDiv (.int i) (.int j) S = if cDiv i j = true then some (.int (i / j), S) else none := nr rfl
@[simp] theorem fMod_ev : fMod (.int i) (.int j) S = if 0 < j then some (.int (i % j), S) else none := by
  show (if cPos i j = true then _ else _) = _
  simp
@[simp] theorem fPow_ev : fPow (.int i) (.int j) S = if cPow i j = true then some (.int (i ^ j.toNat), S) else none := nr rfl
@[simp] theorem fShl_ev : fShl (.int i) (.int j) S = if cShl i j = true then some (.int (i * 2 ^ j.toNat), S) else none := nr rfl
@[simp] theorem fShr_ev : fShr (.int i) (.int j) S = if 0 ≤ j then some (.int (i / 2 ^ j.toNat), S) else none := by
  show (if cShr i j = true then _ else _) = _
  simp
@[simp] theorem fAnd_ev : fAnd (.int i) (.int j) S = some (.int (Builtin.bitAnd i j), S) := nr rfl
@[simp] theorem fXor_ev : fXor (.int i) (.int j) S = some (.int (Builtin.bitXor i j), S) := nr rfl
@[simp] theorem fMul_ev : fMul (.int i) (.int j) S = if cMul1 i j = true then some (.int (i * j), S) else none := nr rfl
@[simp] theorem fNeg_ev : fNeg (.int i) S = some (.int (-i), S) := nr rfl
@[simp] theorem fBits_ev : fBits (.int i) S = some (.int (Builtin.Int.intBits i : Nat), S) := nr rfl
@[simp] theorem fAdd_int : fAdd (.int i) (.int j) S = some (.int (i + j), S) := nr rfl
@[simp] theorem fAdd_str {a b : Str} : fAdd (.str a) (.str b) S = if a.length + b.length ≤ 16777216 then some (.str (a ++ b), S) else none := by
  unfold fAdd
  rw [sizeLine_eq]
@[simp] theorem fAdd_tup {xs ys : List D} : fAdd (.tup xs) (.tup ys) S = if xs.length + ys.length ≤ 16777216 then some (.tup (xs ++ ys), S) else none := by
  unfold fAdd
  rw [sizeLine_eq]
@[simp] theorem fAdd_ref : fAdd (.ref k) (.ref n) S = match S[k]?, S[n]? with
    | some (.lst xs), some (.lst ys) => if xs.length + ys.length ≤ 16777216 then some (.ref S.length, S ++ [.lst (xs ++ ys)]) else none
    | _, _ => none := by
  unfold fAdd
  rw [sizeLine_eq] <;> rfl
@[simp] theorem fLt_ev : fLt (.int i) (.int j) S = some (.bl (decide (i < j)), S) := nr rfl
@[simp] theorem fLe_ev : fLe (.int i) (.int j) S = some (.bl (decide (i ≤ j)), S) := nr rfl
@[simp] theorem fGt_ev : fGt (.int i) (.int j) S = some (.bl (decide (j < i)), S) := nr rfl
@[simp] theorem fGe_ev : fGe (.int i) (.int j) S = some (.bl (decide (j ≤ i)), S) := nr rfl
@[simp] theorem fIs_non : fIs x .non S = some (.bl (isNon x), S) := by cases x <;> rfl
@[simp] theorem fIs_bl {a b : Bool} : fIs (.bl a) (.bl b) S = some (.bl (decide (a = b)), S) := nr rfl
@[simp] theorem fIsN_non : fIsN x .non S = some (.bl (!isNon x), S) := by cases x <;> rfl
@[simp] theorem fIsN_bl {a b : Bool} : fIsN (.bl a) (.bl b) S = some (.bl (!decide (a = b)), S) := nr rfl
@[simp] theorem isNon_non : isNon .non = true := nr rfl
@[simp] theorem isNon_int : isNon (.int i) = false := nr rfl
@[simp] theorem isNon_str {s : Str} : isNon (.str s) = false := nr rfl
@[simp] theorem isNon_tup {xs : List D} : isNon (.tup xs) = false := nr rfl
@[simp] theorem isNon_ref : isNon (.ref k) = false := nr rfl
@[simp] theorem fEq_ev : fEq x y S = (eqD S x y).map fun b => (.bl b, S) := nr rfl
@[simp] theorem fNe_ev : fNe x y S = (eqD S x y).map fun b => (.bl (!b), S) := nr rfl
@[simp] theorem eqD_int : eqD S (.int i) (.int j) = some (decide (i = j)) := nr rfl
@[simp] theorem eqD_str {a b : Str} : eqD S (.str a) (.str b) = some (decide (a = b)) := nr rfl
@[simp] theorem eqD_bl {a b : Bool} : eqD S (.bl a) (.bl b) = some (decide (a = b)) := nr rfl
@[simp] theorem fIx_tup {xs : List D} : fIx (.tup xs) (.int i) S = (atI xs i).map fun d => (d, S) := nr rfl
@[simp] theorem fIx_ref : fIx (.ref n) (.int i) S = match lstAt S n with
    | some xs => (atI xs i).map fun d => (d, S)
    | none => none := nr rfl
@[simp] theorem fIx_str {z : Str} : fIx (.str z) (.int i) S = if z.length ≤ 16777216 then (atI z.cps.toList i).map fun c => (.str ⟨#[c]⟩, S) else none := by
  unfold fIx
  rw [sizeLine_eq]
@[simp] theorem slD_tup {xs : List D} {lo hi : Option Int} : slD (.tup xs) lo hi S = .ok (.tup (cutD xs lo hi)) S := nr rfl
@[simp] theorem slD_ref {lo hi : Option Int} : slD (.ref n) lo hi S = match lstAt S n with
    | some xs => .ok (.ref S.length) (S ++ [.lst (cutD xs lo hi)])
    | none => .stuck := nr rfl
@[simp] theorem slD_str {z : Str} {lo hi : Option Int} : slD (.str z) lo hi S = if z.length ≤ 16777216 then .ok (.str (cutS z lo hi)) S else .stuck := by
  unfold slD
  rw [sizeLine_eq]
@[simp] theorem fLen_tup {xs : List D} : fLen [.tup xs] S = some (.int xs.length, S) := nr rfl
@[simp] theorem fLen_str {z : Str} : fLen [.str z] S = if z.length ≤ 16777216 then some (.int z.length, S) else none := by
  unfold fLen
  rw [sizeLine_eq]
@[simp] theorem fLen_ref : fLen [.ref n] S = match lstAt S n with
    | some ds => some (.int ds.length, S)
    | none => match S[n]? with
      | some (.dk kvs) => some (.int kvs.length, S)
      | some (.dt kvs) => some (.int kvs.length, S)
      | _ => none := nr rfl
@[simp] theorem fIsi_ev {n : String} : fIsi [x, .ty n] S = match tyD S x with
    | some t => (kitB t n).map fun b => (.bl b, S)
    | none => none := nr rfl
@[simp] theorem tyD_non : tyD S .non = some "NoneType" := nr rfl
@[simp] theorem tyD_bl {b : Bool} : tyD S (.bl b) = some "bool" := nr rfl
@[simp] theorem tyD_int : tyD S (.int i) = some "int" := nr rfl
@[simp] theorem tyD_str {z : Str} : tyD S (.str z) = some "str" := nr rfl
@[simp] theorem tyD_tup {xs : List D} : tyD S (.tup xs) = some "tuple" := nr rfl
@[simp] theorem tyD_ref : tyD S (.ref n) = match S[n]? with
    | some (.lst _) => some "list"
    | some (.rdl _) => some "list"
    | some (.dk _) => some "dict"
    | some (.dt _) => some "dict"
    | _ => none := nr rfl
@[simp] theorem fStr_ev : fStr [.int i] S = if i.natAbs.log2 < 1920 then some (.str (toString i), S) else none := nr rfl
@[simp] theorem fInt_int : fInt [.int i] S = some (.int i, S) := nr rfl
@[simp] theorem fInt_bl {b : Bool} : fInt [.bl b] S = some (.int (if b then 1 else 0), S) := nr rfl
@[simp] theorem fMax_ev : fMax [.int i, .int j] S = some (.int (if j > i then j else i), S) := nr rfl
@[simp] theorem fMin_ev : fMin [.int i, .int j] S = some (.int (if j < i then j else i), S) := nr rfl
@[simp] theorem fAbs_ev : fAbs [.int i] S = some (.int (if i < 0 then -i else i), S) := nr rfl
@[simp] theorem fList_ev : fList [d] S = (seqD S d).map fun ds => (.ref S.length, S ++ [.lst ds]) := nr rfl
@[simp] theorem fTuple_ev : fTuple [d] S = (seqD S d).map fun ds => (.tup ds, S) := nr rfl
@[simp] theorem seqD_tup {xs : List D} : seqD S (.tup xs) = some xs := nr rfl
@[simp] theorem seqD_ref : seqD S (.ref n) = lstAt S n := nr rfl
@[simp] theorem ckL_ev : ckL (.ref n) S = (lstAt S n).isSome := nr rfl
@[simp] theorem fAppend_ev : fAppend (.ref n) [d] S = match S[n]? with
    | some (.lst xs) => if xs.length < 16777216 then some (.non, S.set n (.lst (xs ++ [d]))) else none
    | _ => none := by
  unfold fAppend
  rw [sizeLine_eq] <;> rfl
@[simp] theorem ev_it : mIt m ρ S = (m ρ S).bind fun d S1 => match d with
  | .ref n => match lstAt S1 n with
    | some xs => .ok (itL n xs.length) S1
    | none => .stuck
  | .tup ds => .ok (itT ds) S1
  | .str z => .ok (itS z) S1
  | _ => .stuck := nr rfl
@[simp] theorem ev_range1 : mRange1 m ρ S = (m ρ S).bind rg1 := nr rfl
@[simp] theorem rg1_ev : rg1 (.int i) S = if small62 i = true then .ok (itR 0 i.toNat) S else .stuck := nr rfl
@[simp] theorem ev_range2 : mRange2 ma mb ρ S = (ma ρ S).bind fun x S1 => (mb ρ S1).bind fun y S2 => rg2 x y S2 := nr rfl
@[simp] theorem rg2_ev : rg2 (.int i) (.int j) S = if (small62 i && small62 j) = true then .ok (itR i (j - i).toNat) S else .stuck := nr rfl
theorem small62_is (h : -4611686018427387904 ≤ i ∧ i < 4611686018427387904) : small62 i = true := by
  exact cdec_is h
/-! kitB of the built-in types that the texts ask for -/
@[simp] theorem k_int_int : kitB "int" "int" = some true := by decide +kernel
@[simp] theorem k_bool_int : kitB "bool" "int" = some true := by decide +kernel
@[simp] theorem k_str_int : kitB "str" "int" = some false := by decide +kernel
@[simp] theorem k_tup_int : kitB "tuple" "int" = some false := by decide +kernel
@[simp] theorem k_list_int : kitB "list" "int" = some false := by decide +kernel
@[simp] theorem k_dict_int : kitB "dict" "int" = some false := by decide +kernel
@[simp] theorem k_non_int : kitB "NoneType" "int" = some false := by decide +kernel
@[simp] theorem k_int_bool : kitB "int" "bool" = some false := by decide +kernel
@[simp] theorem k_bool_bool : kitB "bool" "bool" = some true := by decide +kernel
@[simp] theorem k_str_bool : kitB "str" "bool" = some false := by decide +kernel
@[simp] theorem k_tup_bool : kitB "tuple" "bool" = some false := by decide +kernel
@[simp] theorem k_list_bool : kitB "list" "bool" = some false := by decide +kernel
@[simp] theorem k_dict_bool : kitB "dict" "bool" = some false := by decide +kernel
@[simp] theorem k_non_bool : kitB "NoneType" "bool" = some false := by decide +kernel
@[simp] theorem k_int_str : kitB "int" "str" = some false := by decide +kernel
@[simp] theorem k_bool_str : kitB "bool" "str" = some false := by decide +kernel
@[simp] theorem k_str_str : kitB "str" "str" = some true := by decide +kernel
@[simp] theorem k_tup_str : kitB "tuple" "str" = some false := by decide +kernel
@[simp] theorem k_list_str : kitB "list" "str" = some false := by decide +kernel
@[simp] theorem k_dict_str : kitB "dict" "str" = some false := by decide +kernel
@[simp] theorem k_non_str : kitB "NoneType" "str" = some false := by decide +kernel
@[simp] theorem k_int_tup : kitB "int" "tuple" = some false := by decide +kernel
@[simp] theorem k_bool_tup : kitB "bool" "tuple" = some false := by decide +kernel
@[simp] theorem k_str_tup : kitB "str" "tuple" = some false := by decide +kernel
@[simp] theorem k_tup_tup : kitB "tuple" "tuple" = some true := by decide +kernel
@[simp] theorem k_list_tup : kitB "list" "tuple" = some false := by decide +kernel
@[simp] theorem k_dict_tup : kitB "dict" "tuple" = some false := by decide +kernel
@[simp] theorem k_non_tup : kitB "NoneType" "tuple" = some false := by decide +kernel
@[simp] theorem k_list_list : kitB "list" "list" = some true := by decide +kernel
@[simp] theorem k_int_list : kitB "int" "list" = some false := by decide +kernel
@[simp] theorem k_str_list : kitB "str" "list" = some false := by decide +kernel
@[simp] theorem k_tup_list : kitB "tuple" "list" = some false := by decide +kernel
@[simp] theorem k_non_list : kitB "NoneType" "list" = some false := by decide +kernel
/-! the store -/
@[simp] theorem app_at0 {l : Sto} : (S ++ l)[S.length]? = l[0]? := by
  rw [List.getElem?_append_right (Nat.le_refl _), Nat.sub_self]
@[simp] theorem app_at {l : Sto} : (S ++ l)[S.length + k]? = l[k]? := by
  rw [List.getElem?_append_right (by omega)]
  congr 1
  omega
@[simp] theorem app_set0 {l : Sto} {o : Ob} : (S ++ l).set S.length o = S ++ l.set 0 o := by
  rw [List.set_append_right _ _ (Nat.le_refl _), Nat.sub_self]
@[simp] theorem app_set {l : Sto} {o : Ob} : (S ++ l).set (S.length + k) o = S ++ l.set k o := by
  rw [List.set_append_right _ _ (by omega)]
  congr 2
  omega
@[simp] theorem lstAt_app0 {l : Sto} : lstAt (S ++ l) S.length = lstAt l 0 := by
  unfold lstAt
  rw [app_at0]
@[simp] theorem lstAt_app {l : Sto} : lstAt (S ++ l) (S.length + k) = lstAt l k := by
  unfold lstAt
  rw [app_at]
@[simp] theorem lstAt_z {o : Ob} {l : Sto} : lstAt (o :: l) 0 = match o with
  | .lst xs => some xs
  | .rdl xs => some xs
  | _ => none := by cases o <;> rfl
@[simp] theorem lstAt_s {o : Ob} {l : Sto} : lstAt (o :: l) (k + 1) = lstAt l k := nr rfl
theorem lstAt_more {l : Sto} {xs : List D} (h : lstAt S n = some xs) : lstAt (S ++ l) n = some xs := by
  unfold lstAt at h ⊢
  cases q : S[n]? with
  | none => rw [q] at h; cases h
  | some o =>
    rw [q] at h
    rw [List.getElem?_append_left (List.getElem?_eq_some_iff.mp q).1, q]
    exact h
theorem at_more {l : Sto} {o : Ob} (h : S[n]? = some o) : (S ++ l)[n]? = some o := by
  rw [List.getElem?_append_left (List.getElem?_eq_some_iff.mp h).1]
  exact h
theorem atI_at {α : Type} {xs : List α} {i : Int} (h0 : 0 ≤ i) (h1 : i < xs.length) : atI xs i = xs[i.toNat]? := by
  unfold atI ixN
  rw [if_pos h0, if_pos h1]
  rfl
end
/-! lists of whole numbers, compared -/
theorem toPys_ints {S : Sto} {n : Nat} : ∀ xs : List Int, toPys S n (xs.map D.int) = some (xs.map PyData.int)
  | [] => by unfold toPys; rfl
  | x :: xs => by
    rw [List.map_cons, toPys, toPys_ints xs, toPy]
    rfl
theorem eqvAll_ints : ∀ xs ys : List Int, PyData.eqvAll (xs.map PyData.int) (ys.map PyData.int) = decide (xs = ys)
  | [], [] => by simp [PyData.eqvAll]
  | [], y :: ys => by simp [PyData.eqvAll]
  | x :: xs, [] => by simp [PyData.eqvAll]
  | x :: xs, y :: ys => by
    rw [List.map_cons, List.map_cons, PyData.eqvAll, eqvAll_ints xs ys, PyData.eqv]
    rw [Bool.eq_iff_iff]
    simp
theorem canLay_ints : ∀ xs : List Int, PyData.canLayAll0 (xs.map PyData.int) = true
  | [] => by simp [PyData.canLayAll0]
  | x :: xs => by
    rw [List.map_cons, PyData.canLayAll0, canLay_ints xs, PyData.canLay0]
    rfl
theorem depth_ints : ∀ xs : List Int, PyData.depthAll (xs.map PyData.int) = 0
  | [] => by simp [PyData.depthAll]
  | x :: xs => by
    rw [List.map_cons, PyData.depthAll, depth_ints xs, PyData.depth]
    rfl
theorem shaped_ints (xs : List Int) : SeqAt.shaped (.list (xs.map PyData.int)) = true := by
  unfold SeqAt.shaped
  rw [PyData.canLay0, canLay_ints, PyData.depth, depth_ints]
  rfl
theorem eqD_ints {S : Sto} {a b : Nat} {xs ys : List Int} (h1 : lstAt S a = some (xs.map D.int)) (h2 : lstAt S b = some (ys.map D.int)) : eqD S (.ref a) (.ref b) = some (decide (xs = ys)) := by
  show deepEq S _ _ = _
  unfold deepEq
  rw [toPy, toPy, h1, h2]
  dsimp only
  rw [toPys_ints, toPys_ints]
  dsimp only [Option.map]
  rw [shaped_ints, shaped_ints]
  simp only [Bool.and_self, if_true]
  rw [PyData.eqv, eqvAll_ints]
/-! from a block's run -/
theorem def_rt {c : Nat} {b : Ms} {ds : List D} {S S' : Sto} {d : D} {ρ0 : Env'} (h : b ρ0 S = .fl (.rt d) S') (h0 : ds.map some ++ List.replicate (c - ds.length) none = ρ0 := by rfl) : mDef c b ds S = .ok d S' := by
  unfold mDef
  rw [h0, h]
theorem def_nx {c : Nat} {b : Ms} {ds : List D} {S S' : Sto} {ρ' ρ0 : Env'} (h : b ρ0 S = .fl (.nx ρ') S') (h0 : ds.map some ++ List.replicate (c - ds.length) none = ρ0 := by rfl) : mDef c b ds S = .ok .non S' := by
  unfold mDef
  rw [h0, h]
theorem def_ex {c : Nat} {b : Ms} {ds : List D} {S S' : Sto} {x : Exn} {ρ' ρ0 : Env'} (h : b ρ0 S = .ex x ρ' S') (h0 : ds.map some ++ List.replicate (c - ds.length) none = ρ0 := by rfl) : mDef c b ds S = .ex x S' := by
  unfold mDef
  rw [h0, h]
theorem seq_nx {a b : Ms} {ρ ρ' : Env'} {S S' : Sto} {r : RS} (h : a ρ S = .fl (.nx ρ') S') (h2 : b ρ' S' = r) : sSeq a b ρ S = r := by
  unfold sSeq
  rw [h]
  exact h2
theorem seq_rt {a b : Ms} {ρ : Env'} {S S' : Sto} {d : D} (h : a ρ S = .fl (.rt d) S') : sSeq a b ρ S = .fl (.rt d) S' := by
  unfold sSeq
  rw [h]
theorem seq_ex {a b : Ms} {ρ ρ' : Env'} {S S' : Sto} {x : Exn} (h : a ρ S = .ex x ρ' S') : sSeq a b ρ S = .ex x ρ' S' := by
  unfold sSeq
  rw [h]
theorem for_of {mi : Mi} {f : Ft} {b : Ms} {it : ItD} {ρ : Env'} {S S1 : Sto} {r : RS} (h : mi ρ S = .ok it S1) (h2 : forF it f b it.cnt 0 ρ S1 = r) : sFor mi f b ρ S = r := by
  unfold sFor
  rw [h]
  exact h2
theorem asg_of' {m : Mx} {ρ : Env'} {S S1 : Sto} {d : D} {k : Nat} (h : m ρ S = .ok d S1) : sAsg k m ρ S = .fl (.nx (ρ.set k (some d))) S1 := by
  unfold sAsg
  rw [h]
  rfl
theorem ret_of {m : Mx} {ρ : Env'} {S S1 : Sto} {d : D} (h : m ρ S = .ok d S1) : sRet m ρ S = .fl (.rt d) S1 := by
  unfold sRet
  rw [h]
  rfl
theorem if_t {c : Mb} {a b : Ms} {ρ : Env'} {S S1 : Sto} {r : RS} (h : c ρ S = .ok true S1) (h2 : a ρ S1 = r) : sIf c a b ρ S = r := by
  unfold sIf
  rw [h]
  exact h2
theorem if_f {c : Mb} {a b : Ms} {ρ : Env'} {S S1 : Sto} {r : RS} (h : c ρ S = .ok false S1) (h2 : b ρ S1 = r) : sIf c a b ρ S = r := by
  unfold sIf
  rw [h]
  exact h2
/-! loops -/
theorem forF_nil {it : ItD} {f : Ft} {b : Ms} {i : Nat} {ρ : Env'} {S : Sto} (h : it.fin S = true) : forF it f b 0 i ρ S = .fl (.nx ρ) S := by
  unfold forF
  rw [if_pos h]
theorem forF_cons {it : ItD} {f : Ft} {b : Ms} {n i : Nat} {ρ ρ1 : Env'} {S : Sto} {d : D} (h : it.nx i S = some d) (h1 : f d ρ = some ρ1) : forF it f b (n + 1) i ρ S = (match b ρ1 S with
        | .fl (.nx ρ2) S2 => forF it f b n (i + 1) ρ2 S2
        | r => r) := by
  rw [forF, h]
  dsimp only
  rw [h1] <;> rfl
/-- for over range: an invariant of the turns -/
theorem forR_inv {lo : Int} {f : Ft} {b : Ms} (P : Nat → Env' → Sto → Prop) (c : Nat)
    (step : ∀ i ρ S, i < c → P i ρ S → ∃ ρ1, f (.int (lo + i)) ρ = some ρ1 ∧ ∃ ρ2 S2, b ρ1 S = .fl (.nx ρ2) S2 ∧ P (i + 1) ρ2 S2) :
    ∀ n i ρ S, i + n = c → P i ρ S → ∃ ρ' S', forF (itR lo c) f b n i ρ S = .fl (.nx ρ') S' ∧ P c ρ' S' := by
  intro n
  induction n with
  | zero =>
    intro i ρ S hi p
    have e : i = c := by omega
    subst e
    exact ⟨ρ, S, forF_nil rfl, p⟩
  | succ n ih =>
    intro i ρ S hi p
    obtain ⟨ρ1, h1, ρ2, S2, h2, p2⟩ := step i ρ S (by omega) p
    obtain ⟨ρ', S', h3, p3⟩ := ih (i + 1) ρ2 S2 (by omega) p2
    refine ⟨ρ', S', ?_, p3⟩
    rw [forF_cons (d := .int (lo + i)) rfl h1, h2]
    exact h3
/-- while: from a run of the fuel form -/
theorem while_done {c : Mb} {b : Ms} {ρ : Env'} {S S1 : Sto} (h : c ρ S = .ok false S1) : sWhile c b ρ S = .fl (.nx ρ) S1 := by
  refine sWhile_eq (n := 1) ?_ (by intro e; cases e)
  rw [whileF, h]
  rfl
theorem while_step {c : Mb} {b : Ms} {ρ ρ1 : Env'} {S S1 S2 : Sto} {r : RS} (h : c ρ S = .ok true S1) (h1 : b ρ S1 = .fl (.nx ρ1) S2) (h2 : sWhile c b ρ1 S2 = r) (hr : r ≠ .stuck) : sWhile c b ρ S = r := by
  have e : ∃ n, whileF c b n ρ1 S2 = r := by
    unfold sWhile at h2
    split at h2
    · exact ⟨_, h2⟩
    · exact absurd h2.symm hr
  obtain ⟨n, e⟩ := e
  refine sWhile_eq (n := n + 1) ?_ hr
  rw [whileF, h]
  simp only [R.st, if_true, h1]
  exact e
theorem while_ret {c : Mb} {b : Ms} {ρ : Env'} {S S1 S2 : Sto} {d : D} (h : c ρ S = .ok true S1) (h1 : b ρ S1 = .fl (.rt d) S2) : sWhile c b ρ S = .fl (.rt d) S2 := by
  refine sWhile_eq (n := 1) ?_ (by intro e; cases e)
  rw [whileF, h]
  simp only [R.st, if_true, h1]
end Eng

/-! The engine, part 8: dicts, join, stores by index, in. -/
namespace Eng
open PySem PySem.Spec PyProof.Rows L2
variable [TabCfg]
section
variable {X : Cx} {W : WX} {pos : Pos}
/-! ### sep.join(xs) -/
def strsD : List D → Option (List Str)
  | [] => some []
  | .str x :: ds => (strsD ds).map (x :: ·)
  | _ => none
theorem strsD_ok {K : PySem.W.Frag} {mg : Str → Option Value} {β : List Addr} {H : Hp} : ∀ {ds : List D} {vs : List V} {ys : List Str}, Vds K mg β H vs ds → strsD ds = some ys → vs = ys.map V.str
  | [], _, _, h, e => by cases e; cases h; rfl
  | d :: ds, _, _, .cons h t, e => by
    cases d with
    | str x =>
      unfold strsD at e
      cases q : strsD ds with
      | none => rw [q] at e; cases e
      | some zs =>
        rw [q] at e
        cases e
        cases h
        rw [strsD_ok t q]
        rfl
    | _ => cases e
noncomputable def joinD (a : Str) (d : D) (S : Sto) : Option (D × Sto) := match seqD S d with
  | some ds => match strsD ds with
    | some ys => if cdec ((ys.map (·.length)).sum + ys.length * a.length ≤ 16777216) = true then some (.str (Txt.join a ys), S) else none
    | none => none
  | none => none
noncomputable def mJoin (mo m : Mx) : Mx := fun ρ S => (mo ρ S).bind fun o S1 => match o with
  | .str a => (m ρ S1).bind fun d S2 => R.ofO (joinD a d S2)
  | _ => .stuck
theorem me_join {o e : Expr} {mo m : Mx} {apos : Pos} (ho : ME X W o mo) (ha : ME X W e m) (hs : starEach [e] X.env = [(false, eval e X.env)] := by rfl) (hbase : attributeBase o "join" X.env (eval o X.env) = eval o X.env := by rfl) (hline : (apos.endLine == pos.line) = true := by rfl) :
    ME X W (.Call (.Attribute o "join" apos) [e] [] pos) (mJoin mo m) := by
  refine ⟨PE.weak (pe_join ho.pe ha.pe hs hbase hline) fun σ H Q ⟨β, S, ρ, rl, en, p⟩ => ⟨β, S, ρ, rl, en, (Po.bind p).mono fun d β1 S1 H1 x1 r1 q v hv => ?_⟩⟩
  cases d with
  | str a =>
    cases hv
    refine ⟨⟨a, rfl⟩, β1, S1, ρ, r1, en.ext x1, (Po.bind q).mono fun d2 β2 S2 H2 x2 r2 q2 u hu => ?_⟩
    obtain ⟨z, S3, e3, k⟩ := q2.ofO
    unfold joinD at e3
    cases e4 : seqD S2 d2 with
    | none => rw [e4] at e3; cases e3
    | some ds =>
      rw [e4] at e3
      dsimp only at e3
      cases e5 : strsD ds with
      | none => rw [e5] at e3; cases e3
      | some ys =>
        rw [e5] at e3
        dsimp only at e3
        split at e3
        · rename_i hl
          cases e3
          obtain ⟨p, us, rfl, h1, h2⟩ := seqD_ok r2 hu e4
          have e6 := strsD_ok h2 e5
          subst e6
          exact ⟨a, p, ys, rfl, rfl, h1.imp id .of, cdec_of hl, k β2 H2 .refl r2 _ (.str _)⟩
        · cases e3
  | _ => exact q.elim
/-! ### dicts: keys are whole numbers and texts, or tuples of them -/
def keyD : D → Option Key
  | .int i => some (.inl i)
  | .str x => some (.inr x)
  | _ => none
theorem keyD_ok {K : PySem.W.Frag} {mg : Str → Option Value} {β : List Addr} {H : Hp} {v : V} {d : D} {k : Key} (h : Vd K mg β H v d) (e : keyD d = some k) : v = kV k := by
  cases d with
  | int i => cases e; cases h; rfl
  | str x => cases e; cases h; rfl
  | _ => cases e
def keysD : List D → Option (List Key)
  | [] => some []
  | d :: ds => match keyD d, keysD ds with
    | some k, some ks => some (k :: ks)
    | _, _ => none
def keyT : D → Option (List Key)
  | .tup ds => keysD ds
  | _ => none
theorem keysD_ok {K : PySem.W.Frag} {mg : Str → Option Value} {β : List Addr} {H : Hp} : ∀ {ds : List D} {vs : List V} {ks : List Key}, Vds K mg β H vs ds → keysD ds = some ks → vs = ks.map kV
  | [], _, _, h, e => by cases e; cases h; rfl
  | d :: ds, _, _, .cons h t, e => by
    unfold keysD at e
    cases q1 : keyD d with
    | none => rw [q1] at e; cases e
    | some k =>
      cases q2 : keysD ds with
      | none => rw [q1, q2] at e; cases e
      | some ks =>
        rw [q1, q2] at e
        cases e
        rw [keyD_ok h q1, keysD_ok t q2]
        rfl
theorem keyT_ok {K : PySem.W.Frag} {mg : Str → Option Value} {β : List Addr} {H : Hp} {v : V} {d : D} {ks : List Key} (h : Vd K mg β H v d) (e : keyT d = some ks) : ∃ b, v = .ref b ∧ H b = some (.tup (ks.map kV)) := by
  cases d with
  | tup ds =>
    obtain ⟨a, us, rfl, h1, h2⟩ := h.tup_at
    have := keysD_ok h2 e
    subst this
    exact ⟨a, rfl, h1⟩
  | _ => cases e
section
variable {κ : Type} [DecidableEq κ]
def valD (kvs : List (κ × D)) (k : κ) : Option D := (kvs.find? fun kv => decide (kv.1 = k)).map (·.2)
def putD (kvs : List (κ × D)) (k : κ) (d : D) : List (κ × D) :=
  if (kvs.any fun kv => decide (kv.1 = k)) = true then kvs.map (fun kv => if kv.1 = k then (kv.1, d) else kv) else kvs ++ [(k, d)]
def dropD (kvs : List (κ × D)) (k : κ) : List (κ × D) := kvs.filter fun kv => decide (kv.1 ≠ k)
variable {K : PySem.W.Frag} {mg : Str → Option Value} {β : List Addr} {H : Hp} {xs : List (κ × V)} {ds : List (κ × D)}
/-- found alike -/
def OV (K : PySem.W.Frag) (mg : Str → Option Value) (β : List Addr) (H : Hp) : Option V → Option D → Prop
  | none, none => True
  | some v, some d => Vd K mg β H v d
  | _, _ => False
theorem Pd.val (h : Pd K mg β H xs ds) (k : κ) : OV K mg β H (valV xs k) (valD ds k) := by
  unfold Pd at h
  induction h with
  | nil => exact True.intro
  | @cons p q ps qs r t ih =>
    unfold valV valD
    rw [List.find?_cons, List.find?_cons, r.1]
    cases decide (q.1 = k) with
    | true => exact r.2
    | false => exact ih
theorem Pd.any (h : Pd K mg β H xs ds) (k : κ) : (xs.any fun kv => decide (kv.1 = k)) = ds.any fun kv => decide (kv.1 = k) := by
  unfold Pd at h
  induction h with
  | nil => rfl
  | @cons p q ps qs r t ih => rw [List.any_cons, List.any_cons, r.1, ih]
theorem Pd.put (h : Pd K mg β H xs ds) (k : κ) {v : V} {d : D} (hv : Vd K mg β H v d) : Pd K mg β H (putK xs k v) (putD ds k d) := by
  unfold putK putD
  rw [h.any k]
  split
  · unfold Pd at h ⊢
    rename_i hh
    clear hh
    induction h with
    | nil => exact .nil
    | @cons p q ps qs r t ih =>
      refine .cons ?_ ih
      dsimp only
      rw [r.1]
      split
      · exact ⟨rfl, hv⟩
      · exact r
  · unfold Pd at h ⊢
    exact Paired.snoc h ⟨rfl, hv⟩
theorem Pd.drop (h : Pd K mg β H xs ds) (k : κ) : Pd K mg β H (dropK xs k) (dropD ds k) := by
  unfold Pd at h ⊢
  unfold dropK dropD
  induction h with
  | nil => exact .nil
  | @cons p q ps qs r t ih =>
    rw [List.filter_cons, List.filter_cons, r.1]
    split
    · exact .cons r ih
    · exact ih
end
/-- what a dict of the store holds at y -/
def dGet (S : Sto) (n : Nat) (y : D) : Option (Option D) := match S[n]? with
  | some (.dk kvs) => (keyD y).map fun k => valD kvs k
  | some (.dt kvs) => (keyT y).map fun k => valD kvs k
  | _ => none
def dPut (S : Sto) (n : Nat) (y d : D) : Option Sto := match S[n]? with
  | some (.dk kvs) => match keyD y with
    | some k => if kvs.length < sizeLine then some (S.set n (.dk (putD kvs k d))) else none
    | none => none
  | some (.dt kvs) => match keyT y with
    | some k => if kvs.length < sizeLine then some (S.set n (.dt (putD kvs k d))) else none
    | none => none
  | _ => none
theorem dGet_ok {K : PySem.W.Frag} {mg : Str → Option Value} {β : List Addr} {H : Hp} {S : Sto} {n : Nat} {a : Addr} {u : V} {y : D} {o : Option D} (r : Rl K mg β H S) (h : β[n]? = some a) (hy : Vd K mg β H u y) (e : dGet S n y = some o) : ∃ ov, DGet H a u ov ∧ OV K mg β H ov o := by
  unfold dGet at e
  cases q : S[n]? with
  | none => rw [q] at e; cases e
  | some ob =>
    rw [q] at e
    have ho := r.at' n a ob h q
    cases ob with
    | dk kvs =>
      dsimp only at e
      obtain ⟨xs, h1, h2⟩ := ho
      cases q2 : keyD y with
      | none => rw [q2] at e; cases e
      | some k =>
        rw [q2] at e
        cases e
        exact ⟨_, .inl ⟨xs, k, .inl h1, keyD_ok hy q2, rfl⟩, h2.val k⟩
    | dt kvs =>
      dsimp only at e
      obtain ⟨xs, h1, h2⟩ := ho
      cases q2 : keyT y with
      | none => rw [q2] at e; cases e
      | some k =>
        rw [q2] at e
        cases e
        obtain ⟨b, rfl, h3⟩ := keyT_ok hy q2
        exact ⟨_, .inr ⟨xs, k, b, .inl h1, rfl, h3, rfl⟩, h2.val k⟩
    | _ => cases e
theorem dPut_ok {K : PySem.W.Frag} {mg : Str → Option Value} {β : List Addr} {H : Hp} {S S' : Sto} {n : Nat} {a : Addr} {u v : V} {y d : D} (r : Rl K mg β H S) (h : β[n]? = some a) (hy : Vd K mg β H u y) (hv : Vd K mg β H v d) (e : dPut S n y d = some S') :
    ∃ H', DPut H a u v H' ∧ Rl K mg β H' S' ∧ Xt K β H β H' := by
  unfold dPut at e
  cases q : S[n]? with
  | none => rw [q] at e; cases e
  | some ob =>
    rw [q] at e
    have ho := r.at' n a ob h q
    cases ob with
    | dk kvs =>
      dsimp only at e
      obtain ⟨xs, h1, h2⟩ := ho
      cases q2 : keyD y with
      | none => rw [q2] at e; cases e
      | some k =>
        rw [q2] at e
        dsimp only at e
        split at e
        · rename_i hl
          cases e
          have := keyD_ok hy q2
          subst this
          obtain ⟨r', x'⟩ := r.write (o := .dK (putK xs k v)) (b' := .dk (putD kvs k d)) h q rfl rfl fun x => ⟨_, upd_same, (h2.put k hv).ext x⟩
          exact ⟨_, .inl ⟨xs, k, h1, rfl, by rw [h2.length]; exact hl, rfl⟩, r', x'⟩
        · cases e
    | dt kvs =>
      dsimp only at e
      obtain ⟨xs, h1, h2⟩ := ho
      cases q2 : keyT y with
      | none => rw [q2] at e; cases e
      | some k =>
        rw [q2] at e
        dsimp only at e
        split at e
        · rename_i hl
          cases e
          obtain ⟨b, rfl, h3⟩ := keyT_ok hy q2
          obtain ⟨r', x'⟩ := r.write (o := .dT (putK xs k v)) (b' := .dt (putD kvs k d)) h q rfl rfl fun x => ⟨_, upd_same, (h2.put k hv).ext x⟩
          exact ⟨_, .inr ⟨xs, k, b, h1, rfl, h3, by rw [h2.length]; exact hl, rfl⟩, r', x'⟩
        · cases e
    | _ => cases e
/-- a new dict -/
theorem Rl.newDk {K : PySem.W.Frag} {mg : Str → Option Value} {β : List Addr} {H : Hp} {S : Sto} {xs : List (Key × V)} {ds : List (Key × D)} (r : Rl K mg β H S) (hv : Pd K mg β H xs ds) {q : Addr} (hq : H q = none) :
    Xt K β H (β ++ [q]) (upd H q (.dK xs)) ∧ Rl K mg (β ++ [q]) (upd H q (.dK xs)) (S ++ [.dk ds]) ∧ Vd K mg (β ++ [q]) (upd H q (.dK xs)) (.ref q) (.ref S.length) := by
  have x : Xt K β H (β ++ [q]) (upd H q (.dK xs)) := xt_new hq
  refine ⟨x, r.new hq ⟨xs, upd_same, hv.ext x⟩, .ref ?_⟩
  rw [← r.len, List.getElem?_append_right (Nat.le_refl _), Nat.sub_self]
  rfl
theorem Rl.newDt {K : PySem.W.Frag} {mg : Str → Option Value} {β : List Addr} {H : Hp} {S : Sto} {xs : List (List Key × V)} {ds : List (List Key × D)} (r : Rl K mg β H S) (hv : Pd K mg β H xs ds) {q : Addr} (hq : H q = none) :
    Xt K β H (β ++ [q]) (upd H q (.dT xs)) ∧ Rl K mg (β ++ [q]) (upd H q (.dT xs)) (S ++ [.dt ds]) ∧ Vd K mg (β ++ [q]) (upd H q (.dT xs)) (.ref q) (.ref S.length) := by
  have x : Xt K β H (β ++ [q]) (upd H q (.dT xs)) := xt_new hq
  refine ⟨x, r.new hq ⟨xs, upd_same, hv.ext x⟩, .ref ?_⟩
  rw [← r.len, List.getElem?_append_right (Nat.le_refl _), Nat.sub_self]
  rfl
def mDk : Mx := fun _ S => .ok (.ref S.length) (S ++ [.dk []])
def mDt : Mx := fun _ S => .ok (.ref S.length) (S ++ [.dt []])
theorem me_dk : ME X W (.Dict [] [] pos) mDk := by
  refine ⟨PE.weak pe_dnewK fun σ H Q ⟨β, S, ρ, rl, en, p⟩ => fun q hq => ?_⟩
  obtain ⟨x, r, v⟩ := rl.newDk (ds := []) (xs := []) .nil hq
  exact p _ _ x r _ v
theorem me_dt : ME X W (.Dict [] [] pos) mDt := by
  refine ⟨PE.weak pe_dnewT fun σ H Q ⟨β, S, ρ, rl, en, p⟩ => fun q hq => ?_⟩
  obtain ⟨x, r, v⟩ := rl.newDt (ds := []) (xs := []) .nil hq
  exact p _ _ x r _ v
/-! #### displays -/
abbrev Mps := Env' → Sto → R (List (D × D))
def mPs0 : Mps := fun _ S => .ok [] S
def mPs1 (mk mv : Mx) (mr : Mps) : Mps := fun ρ S => (mk ρ S).bind fun k S1 => (mv ρ S1).bind fun v S2 => (mr ρ S2).bind fun ps S3 => .ok ((k, v) :: ps) S3
structure MPs (X : Cx) (W : WX) (pos : Pos) (keys : List (Option Expr)) (values : List Expr) (m : Mps) (n : Nat) : Prop where
  run : ∃ trs, PPs X pos keys values trs ∧ keys.length = n ∧ values.length = n ∧ keys.all (·.isSome) = true ∧ ∀ σ H β S ρ (Q : List (V × V) → Hp → Prop), Rl X.K X.mg β H S → En X.K X.mg β H ρ σ →
    Po X.K X.mg W σ β H (m ρ S) (fun ps β' _ H' => ∀ vs, Paired (fun p q => Vd X.K X.mg β' H' p.1 q.1 ∧ Vd X.K X.mg β' H' p.2 q.2) vs ps → Q vs H') → tPairs trs σ H Q
theorem mps_nil : MPs X W pos [] [] mPs0 0 := ⟨[], pps_nil, rfl, rfl, rfl, fun σ H β S ρ Q rl en p => p β H .refl rl [] .nil⟩
theorem mps_cons {k v : Expr} {ks : List (Option Expr)} {vs : List Expr} {mk mv : Mx} {mr : Mps} {n : Nat} (hk : ME X W k mk) (hv : ME X W v mv) (hr : MPs X W pos ks vs mr n) : MPs X W pos (some k :: ks) (v :: vs) (mPs1 mk mv mr) (n + 1) := by
  obtain ⟨trs, h1, h2, h3, h4, h5⟩ := hr
  refine ⟨_, pps_cons hk.pe hv.pe h1, congrArg (· + 1) h2, congrArg (· + 1) h3, h4, fun σ H β S ρ Q rl en p => ?_⟩
  refine ⟨β, S, ρ, rl, en, (Po.bind p).mono fun d β1 S1 H1 x1 r1 q1 u hu => ⟨β1, S1, ρ, r1, en.ext x1, (Po.bind q1).mono fun e β2 S2 H2 x2 r2 q2 w hw => h5 σ H2 β2 S2 ρ _ r2 (en.ext (x1.trans x2)) ((Po.bind q2).mono fun ps β3 S3 H3 x3 r3 q3 us hus => ?_)⟩⟩
  exact q3 β3 H3 .refl r3 _ (.cons ⟨hu.ext (x2.trans x3), hw.ext x3⟩ hus)
def keyPs : List (D × D) → Option (List (Key × D))
  | [] => some []
  | (k, v) :: r => match keyD k, keyPs r with
    | some k', some r' => some ((k', v) :: r')
    | _, _ => none
def mergeD (kvs more : List (Key × D)) : List (Key × D) := more.foldl (fun acc kv => putD acc kv.1 kv.2) kvs
theorem keyPs_ok {K : PySem.W.Frag} {mg : Str → Option Value} {β : List Addr} {H : Hp} : ∀ {ps : List (D × D)} {vs : List (V × V)} {ks : List (Key × D)}, Paired (fun p q => Vd K mg β H p.1 q.1 ∧ Vd K mg β H p.2 q.2) vs ps → keyPs ps = some ks →
    ∃ kvs : List (Key × V), vs = kvs.map (fun kv => (kV kv.1, kv.2)) ∧ Pd K mg β H kvs ks
  | [], _, _, h, e => by cases e; cases h; exact ⟨[], rfl, .nil⟩
  | (k, v) :: r, _, _, .cons (a := a) h t, e => by
    unfold keyPs at e
    cases q1 : keyD k with
    | none => rw [q1] at e; cases e
    | some k' =>
      cases q2 : keyPs r with
      | none => rw [q1, q2] at e; cases e
      | some r' =>
        rw [q1, q2] at e
        cases e
        obtain ⟨kvs, rfl, h2⟩ := keyPs_ok t q2
        obtain ⟨x, y⟩ := a
        have h1 : x = kV k' := keyD_ok h.1 q1
        subst h1
        exact ⟨(k', y) :: kvs, rfl, .cons ⟨rfl, h.2⟩ h2⟩
theorem Pd.merge {K : PySem.W.Frag} {mg : Str → Option Value} {β : List Addr} {H : Hp} : ∀ {more : List (Key × V)} {m2 : List (Key × D)} {kvs : List (Key × V)} {k2 : List (Key × D)}, Pd K mg β H more m2 → Pd K mg β H kvs k2 → Pd K mg β H (mergeK kvs more) (mergeD k2 m2) := by
  intro more m2 kvs k2 r
  unfold Pd at r
  induction r generalizing kvs k2 with
  | nil => intro q; exact q
  | @cons p q ps qs h t ih =>
    intro r0
    refine ih ?_
    dsimp only
    rw [h.1]
    exact r0.put q.1 h.2
def mDisp (m : Mps) : Mx := fun ρ S => (m ρ (S ++ [.dk []])).bind fun ps S1 => match S1[S.length]?, keyPs ps with
  | some (.dk []), some ks => .ok (.ref S.length) (S1.set S.length (.dk (mergeD [] ks)))
  | _, _ => .stuck
theorem mPs_len {m : Mps} : True := True.intro
theorem me_disp {keys : List (Option Expr)} {values : List Expr} {m : Mps} {n : Nat} (h : MPs X W pos keys values m n) (h0 : keys ≠ [] := by exact fun e => nomatch e) (h15 : n ≤ 15 := by decide)
    (hlen : ∀ ρ S ps S', m ρ S = .ok ps S' → ps.length ≤ 15) : ME X W (.Dict keys values pos) (mDisp m) := by
  obtain ⟨trs, h1, h2, h3, h4, h5⟩ := h
  refine ⟨PE.weak (pe_disp h1 h4 (by rw [h2, h3]) h0 (by rw [h2]; exact h15)) fun σ H Q ⟨β, S, ρ, rl, en, p⟩ => fun q hq => ?_⟩
  obtain ⟨x, r, v⟩ := rl.newDk (ds := []) (xs := []) .nil hq
  have p' := (show Po X.K X.mg W σ β H ((m ρ (S ++ [.dk []])).bind _) _ from p).bind
  refine h5 σ _ _ _ ρ _ r (en.ext x) ?_
  cases e : m ρ (S ++ [.dk []]) with
  | stuck => rw [e] at p'; exact p'.elim
  | ex z S1 =>
    rw [e] at p'
    exact fun cls od β' H' y r q => p' cls od β' H' (x.trans y) r q
  | ok ps S1 =>
    rw [e] at p'
    have hps := hlen _ _ _ _ e
    intro β2 H2 x2 r2 vs hvs
    have p2 := p' β2 H2 (x.trans x2) r2
    dsimp only at p2
    have hb : β2[S.length]? = some q := by
      refine x2.at' ?_
      rw [← rl.len, List.getElem?_append_right (Nat.le_refl _), Nat.sub_self]
      rfl
    split at p2
    · rename_i ks e1 e2
      obtain ⟨xs, h6, h7⟩ := r2.at' _ q _ hb e1
      cases h7
      obtain ⟨kvs, rfl, h8⟩ := keyPs_ok hvs e2
      have hl : kvs.length ≤ 15 := by
        have a1 : (kvs.map fun kv => (kV kv.1, kv.2)).length = ps.length := Paired.length hvs
        rw [List.length_map] at a1
        omega
      obtain ⟨r3, x3⟩ := r2.write (o := .dK (mergeK [] kvs)) (b' := .dk (mergeD [] ks)) hb e1 rfl rfl fun x => ⟨_, upd_same, ((Pd.merge h8 .nil).ext x)⟩
      exact ⟨h6, kvs, rfl, hl, p2 _ _ x3 r3 _ (.ref hb)⟩
    · exact p2.elim
theorem mps_len0 : ∀ ρ S ps S', mPs0 ρ S = .ok ps S' → ps.length = 0 := by
  intro ρ S ps S' e
  cases e
  rfl
theorem mps_len1 {mk mv : Mx} {mr : Mps} {n : Nat} (h : ∀ ρ S ps S', mr ρ S = .ok ps S' → ps.length = n) : ∀ ρ S ps S', mPs1 mk mv mr ρ S = .ok ps S' → ps.length = n + 1 := by
  intro ρ S ps S' e
  unfold mPs1 at e
  cases q1 : mk ρ S with
  | ok k S1 =>
    rw [q1] at e
    simp only [R.bind] at e
    cases q2 : mv ρ S1 with
    | ok v S2 =>
      rw [q2] at e
      simp only at e
      cases q3 : mr ρ S2 with
      | ok r S3 =>
        rw [q3] at e
        cases e
        exact congrArg (· + 1) (h _ _ _ _ q3)
      | ex z S3 => rw [q3] at e; cases e
      | stuck => rw [q3] at e; cases e
    | ex z S2 => rw [q2] at e; cases e
    | stuck => rw [q2] at e; cases e
  | ex z S1 => rw [q1] at e; cases e
  | stuck => rw [q1] at e; cases e
theorem mps_le {m : Mps} {n : Nat} (h : ∀ ρ S ps S', m ρ S = .ok ps S' → ps.length = n) (hn : n ≤ 15 := by decide) : ∀ ρ S ps S', m ρ S = .ok ps S' → ps.length ≤ 15 := fun ρ S ps S' e => by rw [h ρ S ps S' e]; exact hn
/-! ### a[b]: lists, tuples, texts, dicts -/
def fItem : F2
  | .tup xs, .int i, S => (atI xs i).map fun d => (d, S)
  | .str z, .int i, S => if z.length ≤ sizeLine then (atI z.cps.toList i).map fun c => (.str ⟨#[c]⟩, S) else none
  | .ref n, y, S => match S[n]? with
    | some (.lst xs) => match y with
      | .int i => (atI xs i).map fun d => (d, S)
      | _ => none
    | some (.rdl xs) => match y with
      | .int i => (atI xs i).map fun d => (d, S)
      | _ => none
    | _ => match dGet S n y with
      | some (some d) => some (d, S)
      | _ => none
  | _, _, _ => none
theorem fItem_ix {x y : D} {S : Sto} : fItem x y S = fIx x y S ∨ (∃ n, x = .ref n ∧ fItem x y S = match dGet S n y with
      | some (some d) => some (d, S)
      | _ => none) := by
  cases x with
  | ref n =>
    cases q : S[n]? with
    | none => exact .inr ⟨n, rfl, by simp [fItem, q]⟩
    | some o =>
      cases o with
      | lst xs => left; cases y <;> simp [fItem, fIx, lstAt, q]
      | rdl xs => left; cases y <;> simp [fItem, fIx, lstAt, q]
      | _ => exact .inr ⟨n, rfl, by simp [fItem, q]⟩
  | _ => left; cases y <;> rfl
theorem me_item {k : Nat} {a b : Expr} {ma mb : Mx} (hr : Room k X.A) (ha : ME X W a ma) (hb : ME X W b mb) (hs : PlainIx b := by exact fun _ _ => rfl) (hn : NoSl b := by exact fun _ _ => rfl) : ME X W (.Subscript a b pos) (mBin fItem ma mb) := by
  have hu : X.A.units + 1 < cLine := by have := hr.units; omega
  refine ⟨⟨fun pins s σ H Q I ⟨β, S, ρ, rl, en, p⟩ => ?_⟩⟩
  by_cases h : mBin fItem ma mb ρ S = mBin fIx ma mb ρ S
  · rw [h] at p
    exact (me_ix ha hb hs).pe.run pins s σ H Q I ⟨β, S, ρ, rl, en, p⟩
  · refine (pe_dget hu ha.pe hb.pe hn).run pins s σ H Q I ⟨β, S, ρ, rl, en, ?_⟩
    have p1 := (show Po X.K X.mg W σ β H ((ma ρ S).bind _) _ from p).bind
    unfold mBin at h
    cases e1 : ma ρ S with
    | stuck => rw [e1] at p1; exact p1.elim
    | ex z S1 => rw [e1] at p1; exact p1
    | ok x S1 =>
      rw [e1] at p1 h
      intro β1 H1 x1 r1 v hv
      refine ⟨β1, S1, ρ, r1, en.ext x1, ?_⟩
      have p2 := (p1 β1 H1 x1 r1).bind
      cases e2 : mb ρ S1 with
      | stuck => rw [e2] at p2; exact p2.elim
      | ex z S2 => rw [e2] at p2; exact p2
      | ok y S2 =>
        rw [e2] at p2
        intro β2 H2 x2 r2 u hu2
        have p3 := p2 β2 H2 x2 r2
        rcases fItem_ix (x := x) (y := y) (S := S2) with q | ⟨n, rfl, q⟩
        · refine absurd ?_ h
          show (mb ρ S1).bind _ = (mb ρ S1).bind _
          rw [e2]
          show R.ofO _ = R.ofO _
          rw [q]
        · rw [q] at p3
          obtain ⟨a', rfl, h1⟩ := (hv.ext x2).ref_inv
          split at p3
          · rename_i d e3
            obtain ⟨ov, g, w⟩ := dGet_ok r2 h1 hu2 e3
            cases ov with
            | none => exact w.elim
            | some w' => exact ⟨a', w', rfl, g, p3 β2 H2 .refl r2 w' w⟩
          · exact p3.elim
/-! ### x in y -/
def flatD : D → Bool
  | .non => true
  | .bl _ => true
  | .int _ => true
  | .str _ => true
  | _ => false
def eqF : D → D → Bool
  | .non, .non => true
  | .bl a, .bl b => a == b
  | .bl a, .int b => (if a then 1 else 0) == b
  | .int a, .bl b => a == (if b then 1 else 0)
  | .int a, .int b => a == b
  | .str a, .str b => a == b
  | _, _ => false
def inSeq (S : Sto) (x : D) (ds : List D) : Option Bool := if (flatD x && ds.all flatD) = true then some (ds.any fun y => eqF y x) else none
def inDeep (S : Sto) (x : D) (n : Nat) : Option Bool := match toPy S 64 x, toPy S 64 (.ref n) with
  | some p, some (.list ps) => if (SeqAt.shaped p && SeqAt.shaped (.list ps)) = true then some (ps.any fun z => PyData.eqv z p) else none
  | _, _ => none
def inD (x y : D) (S : Sto) : Option Bool := match y with
  | .str z => match x with
    | .str w => match w.cps.toList with
      | [c] => some (decide (c ∈ z.cps.toList))
      | _ => none
    | _ => none
  | .tup ds => inSeq S x ds
  | .ref n => match lstAt S n with
    | some ds => match inSeq S x ds with
      | some b => some b
      | none => inDeep S x n
    | none => (dGet S n x).map (·.isSome)
  | _ => none
def fIn : F2 := fun x y S => (inD x y S).map fun b => (.bl b, S)
def fNotIn : F2 := fun x y S => (inD x y S).map fun b => (.bl (!b), S)
def rInDict (neg : Bool) : R2 := fun y x H Q => ∃ a o, x = .ref a ∧ DGet H a y o ∧ Q (.bl (if neg then !o.isSome else o.isSome)) H
theorem op_inDict {k : Nat} (hr : Room k X.A) : OpR X (compareOp .In) (rInDict false) := by
  intro pins s σ H x y v u Q I rx ry ⟨a, o, e, g, q⟩
  subst e
  obtain rfl : u = Value.ref a := ry
  exact d_in (by have := hr.units; omega) I g rx fun s3 I3 => ⟨.bl o.isSome, H, I3, rfl, q⟩
theorem op_notInDict {k : Nat} (hr : Room k X.A) : OpR X (compareOp .NotIn) (rInDict true) := by
  intro pins s σ H x y v u Q I rx ry ⟨a, o, e, g, q⟩
  subst e
  obtain rfl : u = Value.ref a := ry
  exact d_notIn (by have := hr.units; omega) I g rx fun s3 I3 => ⟨.bl (!o.isSome), H, I3, rfl, q⟩
def rInAll (X : Cx) : R2 := fun x y H Q => (rInS x y H Q ∨ rIn X.K false x y H Q) ∨ (rInD X.K x y H Q ∨ rInDict false x y H Q)
def rNotInAll (X : Cx) : R2 := fun x y H Q => (rNotInS x y H Q ∨ rIn X.K true x y H Q) ∨ (rNotInD X.K x y H Q ∨ rInDict true x y H Q)
theorem op_inAll {k : Nat} (hr : Room k X.A) : OpR X (compareOp .In) (rInAll X) := OpR.or (OpR.or op_inS op_in_seq) (OpR.or (op_inD (by have := hr.un; omega)) (op_inDict hr))
theorem op_notInAll {k : Nat} (hr : Room k X.A) : OpR X (compareOp .NotIn) (rNotInAll X) := OpR.or (OpR.or op_notInS op_notIn_seq) (OpR.or (op_notInD (by have := hr.un; omega)) (op_notInDict hr))
section
variable {K : PySem.W.Frag} {mg : Str → Option Value} {β : List Addr} {H : Hp} {S : Sto} {v u : V} {x y : D}
theorem flat_ok (h : Vd K mg β H v x) (e : flatD x = true) : flatV v = true := by cases h <;> first | rfl | cases e
theorem flats_ok : ∀ {vs : List V} {ds : List D}, Vds K mg β H vs ds → ds.all flatD = true → vs.all flatV = true
  | _, _, .nil, _ => rfl
  | _, _, .cons h t, e => by
    rw [List.all_cons, Bool.and_eq_true] at e ⊢
    exact ⟨flat_ok h e.1, flats_ok t e.2⟩
theorem eqF_ok (h : Vd K mg β H v x) (h2 : Vd K mg β H u y) (e : flatD x = true) (e2 : flatD y = true) : eqV v u = eqF x y := by
  cases h <;> cases h2 <;> first | rfl | cases e | cases e2
theorem inV_ok (h2 : Vd K mg β H u y) (e2 : flatD y = true) : ∀ {vs : List V} {ds : List D}, Vds K mg β H vs ds → ds.all flatD = true → inV u vs = ds.any fun z => eqF z y
  | _, _, .nil, _ => rfl
  | _, _, .cons h t, e => by
    rw [List.all_cons, Bool.and_eq_true] at e
    have ih := inV_ok h2 e2 t e.2
    unfold inV at ih ⊢
    rw [List.any_cons, List.any_cons, ih, eqF_ok h h2 e.1 e2]
theorem inD_ok {X : Cx} {β : List Addr} {H : Hp} (neg : Bool) {b : Bool} (r : Rl X.K X.mg β H S) (hx : Vd X.K X.mg β H v x) (hy : Vd X.K X.mg β H u y) (e : inD x y S = some b) {Q : VK} (q : Q (.bl (if neg then !b else b)) H) : if neg = true then rNotInAll X v u H Q else rInAll X v u H Q := by
  have seq : ∀ (p : Addr) (us : List V) (ds : List D), (SqL X.K H p us ∨ SqT X.K H p us) → Vds X.K X.mg β H us ds → inSeq S x ds = some b → rIn X.K neg v (.ref p) H Q := by
    intro p us ds hs hu e
    unfold inSeq at e
    split at e
    · rename_i hf
      rw [Bool.and_eq_true] at hf
      cases e
      refine ⟨p, us, rfl, hs, flat_ok hx hf.1, flats_ok hu hf.2, ?_⟩
      rw [inV_ok hx hf.1 hu hf.2]
      exact q
    · cases e
  have fin : (rInS v u H Q ∧ neg = false ∨ rNotInS v u H Q ∧ neg = true) ∨ rIn X.K neg v u H Q ∨ (rInD X.K v u H Q ∧ neg = false ∨ rNotInD X.K v u H Q ∧ neg = true) ∨ rInDict neg v u H Q → if neg = true then rNotInAll X v u H Q else rInAll X v u H Q := by
    cases neg with
    | true =>
      rw [if_pos rfl]
      rintro ((⟨_, h⟩ | ⟨h, _⟩) | h | (⟨_, h⟩ | ⟨h, _⟩) | h)
      · cases h
      · exact .inl (.inl h)
      · exact .inl (.inr h)
      · cases h
      · exact .inr (.inl h)
      · exact .inr (.inr h)
    | false =>
      rw [if_neg Bool.false_ne_true]
      rintro ((⟨h, _⟩ | ⟨_, h⟩) | h | (⟨h, _⟩ | ⟨_, h⟩) | h)
      · exact .inl (.inl h)
      · cases h
      · exact .inl (.inr h)
      · exact .inr (.inl h)
      · cases h
      · exact .inr (.inr h)
  refine fin ?_
  cases y with
  | str z =>
    cases hy
    unfold inD at e
    dsimp only at e
    cases x with
    | str w =>
      cases hx
      dsimp only at e
      split at e
      · rename_i c ec
        cases e
        have ew : w = ⟨#[c]⟩ := by
          cases w
          congr 1
          exact Array.toList_inj.mp ec
        subst ew
        cases neg with
        | true => exact .inl (.inr ⟨⟨c, z, rfl, rfl, q⟩, rfl⟩)
        | false => exact .inl (.inl ⟨⟨c, z, rfl, rfl, q⟩, rfl⟩)
      · cases e
    | _ => cases e
  | tup ds =>
    obtain ⟨p, us, rfl, h1, h2⟩ := hy.tup_inv
    exact .inr (.inl (seq p us ds (.inr h1) h2 e))
  | ref n =>
    obtain ⟨p, rfl, h1⟩ := hy.ref_inv
    unfold inD at e
    dsimp only at e
    cases q1 : lstAt S n with
    | some ds =>
      rw [q1] at e
      dsimp only at e
      obtain ⟨us, h2, h3⟩ := lst_read r h1 q1
      cases q2 : inSeq S x ds with
      | some b' =>
        rw [q2] at e
        cases e
        exact .inr (.inl (seq p us ds (.inl h2) h3 q2))
      | none =>
        rw [q2] at e
        dsimp only at e
        unfold inDeep at e
        split at e
        · rename_i d ps e1 e2
          split at e
          · rename_i hs
            rw [Bool.and_eq_true] at hs
            cases e
            have k1 := toPy_ok r 64 x v d hx e1
            have k2 := toPy_ok r 64 (.ref n) (.ref p) (.list ps) (.ref h1) e2
            cases neg with
            | true => exact .inr (.inr (.inl (.inr ⟨⟨d, ps, k1, k2, hs.1, hs.2, q⟩, rfl⟩)))
            | false => exact .inr (.inr (.inl (.inl ⟨⟨d, ps, k1, k2, hs.1, hs.2, q⟩, rfl⟩)))
          · cases e
        · cases e
    | none =>
      rw [q1] at e
      dsimp only at e
      cases q2 : dGet S n x with
      | none => rw [q2] at e; cases e
      | some o =>
        rw [q2] at e
        cases e
        obtain ⟨ov, g, w⟩ := dGet_ok r h1 hx q2
        have eo : ov.isSome = o.isSome := by
          cases ov <;> cases o <;> first | rfl | exact w.elim
        exact .inr (.inr (.inr ⟨p, ov, rfl, g, by rw [eo]; exact q⟩))
  | _ => cases e
end
theorem o_in : Op2 X (rInAll X) fIn := by
  intro β H S x y v u d S' Q r hx hy e k
  unfold fIn at e
  cases q : inD x y S with
  | none => rw [q] at e; cases e
  | some b =>
    rw [q] at e
    cases e
    have := inD_ok (X := X) false r hx hy q (Q := Q) (k β H _ .refl r (.bl _))
    simpa using this
theorem o_notIn : Op2 X (rNotInAll X) fNotIn := by
  intro β H S x y v u d S' Q r hx hy e k
  unfold fNotIn at e
  cases q : inD x y S with
  | none => rw [q] at e; cases e
  | some b =>
    rw [q] at e
    cases e
    have := inD_ok (X := X) true r hx hy q (Q := Q) (k β H _ .refl r (.bl _))
    simpa using this
/-! ### o[i] = v -/
def setI (o i d : D) (S : Sto) : Option Sto := match o with
  | .ref n => match S[n]? with
    | some (.lst xs) => match i with
      | .int k => match ixN xs.length k with
        | some j => some (S.set n (.lst (xs.set j d)))
        | none => none
      | _ => none
    | _ => dPut S n i d
  | _ => none
def sPut (mo mi mv : Mx) : Ms := fun ρ S => (mv ρ S).st ρ fun d S1 => (mo ρ S1).st ρ fun o S2 => (mi ρ S2).st ρ fun i S3 => match setI o i d S3 with
  | some S4 => .fl (.nx ρ) S4
  | none => .stuck
theorem PSet.or {t t' : TSet} (h : PSet X t) (h' : PSet X t') : PSet X fun o i v H Q => t o i v H Q ∨ t' o i v H Q := by
  intro pins s σ H o i v ov iv u Q I ro ri rv q
  rcases q with q | q
  · exact h pins s σ H o i v ov iv u Q I ro ri rv q
  · exact h' pins s σ H o i v ov iv u Q I ro ri rv q
theorem setI_ok {β : List Addr} {H : Hp} {S S' : Sto} {o i d : D} {vo vi vd : V} (r : Rl X.K X.mg β H S) (ho : Vd X.K X.mg β H vo o) (hi : Vd X.K X.mg β H vi i) (hd : Vd X.K X.mg β H vd d) (e : setI o i d S = some S') {Q : Hp → Prop} (k : ∀ H', Rl X.K X.mg β H' S' → Xt X.K β H β H' → Q H') :
    rSetL vo vi vd H Q ∨ rSetD vo vi vd H Q := by
  cases o with
  | ref n =>
    obtain ⟨a, rfl, h1⟩ := ho.ref_inv
    have dict : dPut S n i d = some S' → rSetD (.ref a) vi vd H Q := fun e => by
      obtain ⟨H', g, r', x'⟩ := dPut_ok r h1 hi hd e
      exact ⟨a, H', rfl, g, k H' r' x'⟩
    unfold setI at e
    dsimp only at e
    cases q : S[n]? with
    | none => rw [q] at e; exact .inr (dict e)
    | some ob =>
      rw [q] at e
      cases ob with
      | lst xs =>
        cases i with
        | int kk =>
          cases hi
          dsimp only at e
          cases q2 : ixN xs.length kk with
          | none => rw [q2] at e; cases e
          | some j =>
            rw [q2] at e
            cases e
            obtain ⟨us, h3, h4⟩ := r.lst_at h1 q
            obtain ⟨r', x'⟩ := r.write (o := .lst (us.set j vd)) (b' := .lst (xs.set j d)) h1 q rfl rfl fun x => ⟨_, upd_same, (h4.set j hd).ext x⟩
            exact .inl ⟨a, us, kk, j, rfl, rfl, h3, by rw [h4.length]; exact q2, k _ r' x'⟩
        | _ => cases e
      | _ => exact .inr (dict e)
  | _ => cases e
theorem ms_put {k : Nat} {o i e : Expr} {mo mi m : Mx} {ipos : Pos} (hr : Room k X.A) (ho : ME X W o mo) (hi : ME X W i mi) (he : ME X W e m)
    (ha : ∀ v, assign (.Subscript o i ipos) X.env v = (do
      let ov ← holding [v] (eval o X.env)
      let iv ← holding [v, ov] (eval i X.env)
      standAt ipos
      holding [v, ov, iv] (setItem ov iv v)
      release [v, ov, iv] []) := by intro _; rfl)
    (hs : swapsWithSole [.Subscript o i ipos] e pos.line X.env = pure false := by rfl) (hw : swappedStores [.Subscript o i ipos] e X.env = pure none := by rfl)
    (h1 : (assignEach [.Subscript o i ipos] X.env).map (·.2) = [assign (.Subscript o i ipos) X.env] := by rfl) : MS X W (.Assign [.Subscript o i ipos] e pos) (sPut mo mi m) := by
  have hu : X.A.units + 1 < cLine := by have := hr.units; omega
  refine ⟨PS.weak (ps_asg he.pe (pg_sub ho.pe hi.pe (PSet.or set_list (set_dict hu)) ha) hs hw h1) fun D σ H ⟨β, S, ρ, rl, en, p⟩ => ?_⟩
  refine ⟨β, S, ρ, rl, en, (PoS.st p en).mono fun d β1 S1 H1 x1 r1 q1 v hv => ⟨β1, S1, ρ, r1, en.ext x1, (PoS.st q1 (en.ext x1)).mono fun od β2 S2 H2 x2 r2 q2 ov hov => ⟨β2, S2, ρ, r2, en.ext (x1.trans x2), (PoS.st q2 (en.ext (x1.trans x2))).mono fun id β3 S3 H3 x3 r3 q3 iv hiv => ?_⟩⟩⟩
  cases e4 : setI od id d S3 with
  | none => rw [e4] at q3; exact q3.elim
  | some S4 =>
    rw [e4] at q3
    exact setI_ok r3 (hov.ext x3) hiv (hv.ext (x2.trans x3)) e4 fun H' r' x' => q3 β3 H' σ x' r' (en.ext (((x1.trans x2).trans x3).trans x'))
end
end Eng

/-! The engine, part 9: rows for simp of part 8. -/
namespace Eng
open PySem PySem.Spec PyProof.Rows L2
variable [TabCfg]
section
variable {ρ : Env'} {S S' : Sto} {m ma mb mc mo mi : Mx} {x y d : D} {i j : Int} {k n : Nat}
@[simp] theorem ev_join : mJoin mo m ρ S = (mo ρ S).bind fun o S1 => match o with
  | .str a => (m ρ S1).bind fun d S2 => R.ofO (joinD a d S2)
  | _ => .stuck := nr rfl
@[simp] theorem ev_dk : mDk ρ S = .ok (.ref S.length) (S ++ [.dk []]) := nr rfl
@[simp] theorem ev_dt : mDt ρ S = .ok (.ref S.length) (S ++ [.dt []]) := nr rfl
@[simp] theorem ev_ps0 : mPs0 ρ S = .ok [] S := nr rfl
@[simp] theorem ev_ps1 {mr : Mps} : mPs1 ma mb mr ρ S = (ma ρ S).bind fun k S1 => (mb ρ S1).bind fun v S2 => (mr ρ S2).bind fun ps S3 => .ok ((k, v) :: ps) S3 := nr rfl
@[simp] theorem ev_disp {mp : Mps} : mDisp mp ρ S = (mp ρ (S ++ [.dk []])).bind fun ps S1 => match S1[S.length]?, keyPs ps with
  | some (.dk []), some ks => .ok (.ref S.length) (S1.set S.length (.dk (mergeD [] ks)))
  | _, _ => .stuck := nr rfl
@[simp] theorem keyD_int : keyD (.int i) = some (.inl i) := nr rfl
@[simp] theorem keyD_str {s : Str} : keyD (.str s) = some (.inr s) := nr rfl
@[simp] theorem keyPs_nil : keyPs [] = some [] := nr rfl
@[simp] theorem keyPs_cons {r : List (D × D)} : keyPs ((x, y) :: r) = match keyD x, keyPs r with
    | some k', some r' => some ((k', y) :: r')
    | _, _ => none := nr rfl
@[simp] theorem mergeD_nil {kvs : List (Key × D)} : mergeD kvs [] = kvs := nr rfl
@[simp] theorem mergeD_cons {kvs r : List (Key × D)} {p : Key × D} : mergeD kvs (p :: r) = mergeD (putD kvs p.1 p.2) r := nr rfl
@[simp] theorem putD_nil {κ : Type} [DecidableEq κ] {k : κ} : putD [] k d = [(k, d)] := by simp [putD]
@[simp] theorem fItem_tup {xs : List D} : fItem (.tup xs) (.int i) S = (atI xs i).map fun d => (d, S) := nr rfl
@[simp] theorem fItem_str {z : Str} : fItem (.str z) (.int i) S = if z.length ≤ 16777216 then (atI z.cps.toList i).map fun c => (.str ⟨#[c]⟩, S) else none := by
  unfold fItem
  rw [sizeLine_eq]
@[simp] theorem fItem_ref : fItem (.ref n) y S = match S[n]? with
    | some (.lst xs) => match y with
      | .int i => (atI xs i).map fun d => (d, S)
      | _ => none
    | some (.rdl xs) => match y with
      | .int i => (atI xs i).map fun d => (d, S)
      | _ => none
    | _ => match dGet S n y with
      | some (some d) => some (d, S)
      | _ => none := by cases y <;> rfl
theorem atI_lit {α : Type} {xs : List α} {n : Nat} {a : α} (h : xs[n]? = some a) : atI xs (n : Int) = some a := by
  have hl := (List.getElem?_eq_some_iff.mp h).1
  rw [atI_at (by omega) (by omega), Int.toNat_natCast, h]
@[simp] theorem atI_0 {α : Type} {a : α} {r : List α} : atI (a :: r) 0 = some a := atI_lit (n := 0) rfl
@[simp] theorem atI_1 {α : Type} {a b : α} {r : List α} : atI (a :: b :: r) 1 = some b := atI_lit (n := 1) rfl
@[simp] theorem atI_2 {α : Type} {a b c : α} {r : List α} : atI (a :: b :: c :: r) 2 = some c := atI_lit (n := 2) rfl
@[simp] theorem atI_3 {α : Type} {a b c d : α} {r : List α} : atI (a :: b :: c :: d :: r) 3 = some d := atI_lit (n := 3) rfl
@[simp] theorem atI_4 {α : Type} {a b c d e : α} {r : List α} : atI (a :: b :: c :: d :: e :: r) 4 = some e := atI_lit (n := 4) rfl
@[simp] theorem atI_5 {α : Type} {a b c d e f : α} {r : List α} : atI (a :: b :: c :: d :: e :: f :: r) 5 = some f := atI_lit (n := 5) rfl
@[simp] theorem atI_6 {α : Type} {a b c d e f g : α} {r : List α} : atI (a :: b :: c :: d :: e :: f :: g :: r) 6 = some g := atI_lit (n := 6) rfl
@[simp] theorem fIn_ev : fIn x y S = (inD x y S).map fun b => (.bl b, S) := nr rfl
@[simp] theorem fNotIn_ev : fNotIn x y S = (inD x y S).map fun b => (.bl (!b), S) := nr rfl
@[simp] theorem ev_put : sPut mo mi m ρ S = (m ρ S).st ρ fun d S1 => (mo ρ S1).st ρ fun o S2 => (mi ρ S2).st ρ fun i S3 => match setI o i d S3 with
  | some S4 => .fl (.nx ρ) S4
  | none => .stuck := nr rfl
@[simp] theorem setI_ref : setI (.ref n) x d S = match S[n]? with
    | some (.lst xs) => match x with
      | .int k => match ixN xs.length k with
        | some j => some (S.set n (.lst (xs.set j d)))
        | none => none
      | _ => none
    | _ => dPut S n x d := nr rfl
theorem lst_of {xs : List D} (h : lstAt S n = some xs) : fItem (.ref n) (.int i) S = (atI xs i).map fun d => (d, S) := by
  unfold lstAt at h
  split at h
  · rename_i q
    cases h
    rw [fItem_ref, q]
  · rename_i q
    cases h
    rw [fItem_ref, q]
  · cases h
theorem joinD_of {a : Str} {ds : List D} {ys : List Str} (h : seqD S d = some ds) (h2 : strsD ds = some ys) (h3 : (ys.map (·.length)).sum + ys.length * a.length ≤ 16777216) : joinD a d S = some (.str (Txt.join a ys), S) := by
  unfold joinD
  rw [h]
  dsimp only
  rw [h2]
  dsimp only
  rw [if_pos (cdec_is h3)]

theorem log_lt {n k : Nat} (h : n < 2 ^ k) (hk : 0 < k) : n.log2 < k := by
  by_cases h0 : n = 0
  · subst h0
    simpa using hk
  · exact (Nat.log2_lt h0).mpr h
theorem cMul1_of {a b : Nat} (h1 : i.natAbs < 2 ^ a) (h2 : j.natAbs < 2 ^ b) (ha : 0 < a) (hb : 0 < b) (h : a + b ≤ 1000000) : cMul1 i j = true := by
  have e1 := log_lt h1 ha
  have e2 := log_lt h2 hb
  unfold cMul1
  rw [Bool.or_eq_true]
  exact .inr (cdec_is (by omega))
/-! loops by an invariant -/
theorem for_inv {it : ItD} {f : Ft} {b : Ms} (P : Nat → Env' → Sto → Prop) (step : ∀ i ρ S, i < it.cnt → P i ρ S → ∃ d ρ1 ρ2 S2, it.nx i S = some d ∧ f d ρ = some ρ1 ∧ b ρ1 S = .fl (.nx ρ2) S2 ∧ P (i + 1) ρ2 S2)
    (fin : ∀ ρ S, P it.cnt ρ S → it.fin S = true) {ρ : Env'} {S : Sto} (h0 : P 0 ρ S) : ∃ ρ' S', forF it f b it.cnt 0 ρ S = .fl (.nx ρ') S' ∧ P it.cnt ρ' S' := by
  have key : ∀ n i ρ S, i + n = it.cnt → P i ρ S → ∃ ρ' S', forF it f b n i ρ S = .fl (.nx ρ') S' ∧ P it.cnt ρ' S' := by
    intro n
    induction n with
    | zero =>
      intro i ρ S hi h
      have e : i = it.cnt := by omega
      subst e
      exact ⟨ρ, S, forF_nil (fin ρ S h), h⟩
    | succ n ih =>
      intro i ρ S hi h
      obtain ⟨d, ρ1, ρ2, S2, e1, e2, e3, e4⟩ := step i ρ S (by omega) h
      obtain ⟨ρ', S', e5, e6⟩ := ih (i + 1) ρ2 S2 (by omega) e4
      refine ⟨ρ', S', ?_, e6⟩
      rw [forF_cons e1 e2, e3]
      exact e5
  exact key it.cnt 0 ρ S (by omega) h0
/-- a loop that may end by a return, or by an exception -/
theorem for_inv' {it : ItD} {f : Ft} {b : Ms} (P : Nat → Env' → Sto → Prop) (R : RS → Prop) (step : ∀ i ρ S, i < it.cnt → P i ρ S → ∃ d ρ1, it.nx i S = some d ∧ f d ρ = some ρ1 ∧
      ((∃ ρ2 S2, b ρ1 S = .fl (.nx ρ2) S2 ∧ P (i + 1) ρ2 S2) ∨ ((∃ d S2, b ρ1 S = .fl (.rt d) S2) ∨ (∃ x ρ2 S2, b ρ1 S = .ex x ρ2 S2)) ∧ R (b ρ1 S)))
    (fin : ∀ ρ S, P it.cnt ρ S → it.fin S = true) {ρ : Env'} {S : Sto} (h0 : P 0 ρ S) : (∃ ρ' S', forF it f b it.cnt 0 ρ S = .fl (.nx ρ') S' ∧ P it.cnt ρ' S') ∨ (((∃ d S2, forF it f b it.cnt 0 ρ S = .fl (.rt d) S2) ∨ (∃ x ρ2 S2, forF it f b it.cnt 0 ρ S = .ex x ρ2 S2)) ∧ R (forF it f b it.cnt 0 ρ S)) := by
  have key : ∀ n i ρ S, i + n = it.cnt → P i ρ S → (∃ ρ' S', forF it f b n i ρ S = .fl (.nx ρ') S' ∧ P it.cnt ρ' S') ∨ (((∃ d S2, forF it f b n i ρ S = .fl (.rt d) S2) ∨ (∃ x ρ2 S2, forF it f b n i ρ S = .ex x ρ2 S2)) ∧ R (forF it f b n i ρ S)) := by
    intro n
    induction n with
    | zero =>
      intro i ρ S hi h
      have e : i = it.cnt := by omega
      subst e
      exact .inl ⟨ρ, S, forF_nil (fin ρ S h), h⟩
    | succ n ih =>
      intro i ρ S hi h
      obtain ⟨d, ρ1, e1, e2, e3⟩ := step i ρ S (by omega) h
      rw [forF_cons e1 e2]
      rcases e3 with ⟨ρ2, S2, e3, e4⟩ | ⟨⟨d2, S2, e3⟩ | ⟨x, ρ2, S2, e3⟩, e4⟩
      · rw [e3]
        exact ih (i + 1) ρ2 S2 (by omega) e4
      · rw [e3] at e4 ⊢
        exact .inr ⟨.inl ⟨_, _, rfl⟩, e4⟩
      · rw [e3] at e4 ⊢
        exact .inr ⟨.inr ⟨_, _, _, rfl⟩, e4⟩
  exact key it.cnt 0 ρ S (by omega) h0
theorem while_inv {c : Mb} {b : Ms} (P : Nat → Env' → Sto → Prop) (E : Env' → Sto → Prop) (step : ∀ n ρ S, P n ρ S → (∃ S1, c ρ S = .ok false S1 ∧ E ρ S1) ∨ ∃ S1 ρ2 S2 k, c ρ S = .ok true S1 ∧ b ρ S1 = .fl (.nx ρ2) S2 ∧ k < n ∧ P k ρ2 S2) :
    ∀ n ρ S, P n ρ S → ∃ ρ' S', sWhile c b ρ S = .fl (.nx ρ') S' ∧ E ρ' S' := by
  intro n
  induction n using Nat.strongRecOn with
  | _ n ih =>
    intro ρ S h
    rcases step n ρ S h with ⟨S1, e1, e2⟩ | ⟨S1, ρ2, S2, k, e1, e2, hk, e3⟩
    · exact ⟨ρ, S1, while_done e1, e2⟩
    · obtain ⟨ρ', S', e4, e5⟩ := ih k hk ρ2 S2 e3
      exact ⟨ρ', S', while_step e1 e2 e4 (by intro h; cases h), e5⟩
/-- [m for ..] by an invariant; the list stands at n -/
theorem lc_inv {it : ItD} {f : Ft} {mt : Mb} {m : Mx} {ρ : Env'} {n : Nat} (P : Nat → Sto → Prop) (step : ∀ i S, i < it.cnt → P i S → ∃ d ρ1, it.nx i S = some d ∧ f d ρ = some ρ1 ∧
      ((∃ S1, mt ρ1 S = .ok false S1 ∧ P (i + 1) S1) ∨ ∃ S1 y S2 acc, mt ρ1 S = .ok true S1 ∧ m ρ1 S1 = .ok y S2 ∧ S2[n]? = some (.lst acc) ∧ acc.length < 16777216 ∧ P (i + 1) (S2.set n (.lst (acc ++ [y])))))
    (fin : ∀ S, P it.cnt S → it.fin S = true) {S : Sto} (h0 : P 0 S) : ∃ S', lcF it f mt m ρ n it.cnt 0 S = .ok (.ref n) S' ∧ P it.cnt S' := by
  have key : ∀ k i S, i + k = it.cnt → P i S → ∃ S', lcF it f mt m ρ n k i S = .ok (.ref n) S' ∧ P it.cnt S' := by
    intro k
    induction k with
    | zero =>
      intro i S hi h
      have e : i = it.cnt := by omega
      subst e
      exact ⟨S, by rw [lcF, if_pos (fin S h)], h⟩
    | succ k ih =>
      intro i S hi h
      obtain ⟨d, ρ1, e1, e2, e3⟩ := step i S (by omega) h
      rw [lcF, e1]
      dsimp only
      rw [e2]
      dsimp only
      rcases e3 with ⟨S1, e3, e4⟩ | ⟨S1, y, S2, acc, e3, e4, e5, e6, e7⟩
      · rw [e3]
        exact ih (i + 1) S1 (by omega) e4
      · rw [e3]
        dsimp only
        rw [e4]
        dsimp only
        rw [e5]
        dsimp only
        rw [if_pos (show acc.length < sizeLine by rw [sizeLine_eq]; exact e6)]
        exact ih (i + 1) _ (by omega) e7
  exact key it.cnt 0 S (by omega) h0
end
theorem itL_nx {n c i : Nat} {S : Sto} {xs : List D} {d : D} (h : lstAt S n = some xs) (e : xs[i]? = some d) : (itL n c).nx i S = some d := by
  show (lstAt S n).bind (·[i]?) = some d
  rw [h]
  exact e
theorem itL_fin {n c : Nat} {S : Sto} {xs : List D} (h : lstAt S n = some xs) (hl : xs.length ≤ c) : (itL n c).fin S = true := by
  show (match lstAt S n with
    | some xs => decide (xs.length ≤ c)
    | none => false) = true
  rw [h]
  exact decide_eq_true hl
theorem ints_at {ns : List Int} {i : Nat} (h : i < ns.length) : (ns.map D.int)[i]? = some (.int ns[i]) := by
  rw [List.getElem?_map, List.getElem?_eq_getElem h]
  rfl
theorem set_mid {A B : Sto} {o u : Ob} : (A ++ [o] ++ B).set A.length u = A ++ [u] ++ B := by simp
theorem at_mid {A B : Sto} {o : Ob} : (A ++ [o] ++ B)[A.length]? = some o := by simp
/-! texts made of signs -/
theorem strsD_map : ∀ ys : List Str, strsD (ys.map D.str) = some ys
  | [] => rfl
  | y :: ys => by
    rw [List.map_cons, strsD, strsD_map ys]
    rfl
end Eng

set_option maxHeartbeats 2000000
/-! The engine, part 10: exceptions: raise, try. -/
namespace Eng
open PySem PySem.Spec PyProof.Rows L2
variable [TabCfg]
section
variable {X : Cx} {pins : List (Addr × Obj)} {σ : L2.St} {H : Hp} {s : Shared} {a : Addr} {o : HO}
/-- an object that stands there already comes to be tracked -/
theorem Inv.track (J : Inv X pins σ H s) (hn : H a = none) (nl : a ≠ X.env.locals) (nc : ∀ y c, X.env.cells.lookup y = some c → c ≠ a) (np : ∀ q ∈ X.pn ++ pins, q.1 ≠ a) (n0 : ∀ b u, X.s_0.heap.get? b = some u → b ≠ a) (new : ObjOk X.prog X.w (upd H a o) s.heap a o) : Inv X pins σ (upd H a o) s := by
  have old : ∀ {b : Addr} {u : HO}, H b = some u → b ≠ a := fun {b u} q z => by
    rw [z, hn] at q
    cases q
  refine ⟨J.ok, J.os, J.bare, ⟨J.base.keep, J.base.slot, ?_, J.base.there, ?_, ?_, ?_⟩, J.loc, J.cell, ?_, ?_, ?_, ?_, J.len⟩
  · intro b u q n hx
    rw [upd_ne (n0 b u q)]
    exact J.base.free b u q n hx
  · intro b xs q
    have := J.base.tups b xs q
    rw [upd_ne (old this)]
    exact this
  · intro b u v q
    have := J.base.frzs b u v q
    rw [upd_ne (old this)]
    exact this
  · intro b ps q
    obtain ⟨m, this⟩ := J.base.tbls b ps q
    exact ⟨m, by rw [upd_ne (old this)]; exact this⟩
  · rw [upd_ne (Ne.symm nl)]
    exact J.free
  · intro y c q
    rw [upd_ne (nc y c q)]
    exact J.freeC y c q
  · intro q hq
    obtain ⟨z1, z2, z3⟩ := J.pin q hq
    exact ⟨z1, by rw [upd_ne (np q hq)]; exact z2, z3⟩
  · intro b u q
    by_cases hb : b = a
    · subst hb
      rw [upd_same] at q
      cases q
      exact new
    · rw [upd_ne hb] at q
      exact (J.hok b u q).stay (fun _ _ _ z => z) (fun c z => by rw [upd_ne (old z)]; exact z) fun c xs z => by rw [upd_ne (old z)]; exact z
/-- into an except suite, the exception tracked -/
theorem Inv.toSuite (J : Inv X pins σ H s) (e : Addr) : Inv (X.suite e (X.pn ++ pins)) [] σ H s :=
  ⟨J.ok.suite _ _, J.os, J.bare, J.base, J.loc, J.cell, J.free, J.freeC, fun q hq => J.pin q (by rw [List.append_nil] at hq; exact hq), J.hok, J.len⟩
theorem Inv.fromSuite {e : Addr} {ps : List (Addr × Obj)} (J : Inv (X.suite e (X.pn ++ pins)) ps σ H s) (ok : X.Ok) : Inv X pins σ H s :=
  ⟨ok, J.os, J.bare, J.base, J.loc, J.cell, J.free, J.freeC, fun q hq => J.pin q (List.mem_append_left _ hq), J.hok, J.len⟩
theorem exoH_ok {P : Program} {w : World} {H : Hp} {h : Heap} {a : Addr} {cls : Value} {od : Option Addr} {oe : Obj} {vs : Array Value} (e : h.get? a = some oe) (z : Zc cls od oe) (d : oe.data = .fields vs) : ObjOk P w H h a (exoH a cls od) :=
  ⟨⟨oe, vs, e, z, d⟩, ⟨oe, e⟩, fun _ _ ⟨u, v, q, r⟩ k => ⟨u, v, k u q, r⟩⟩
end
/-- a clause: the class that it names, the slot of its name, its suite -/
abbrev Cl := Value × Option Nat × TS
def inSlot (j : Option Nat) (v : Option V) (σ : L2.St) : L2.St := match j with
  | none => σ
  | some i => σ.set i v
/-- what the clauses wish of an exception of the body -/
def wCl (K : PySem.W.Frag) (Wout : WX) (D : Ends) : List Cl → WX
  | [] => Wout
  | (c, j, ts) :: r => fun cls d σ H => ∃ b, PySem.W.exmOne K cls c = some b ∧
      (b = true → ∀ a, H a = none → ts { nx := fun σ' H' => D.nx (inSlot j none σ') H', rt := D.rt, bk := fun σ' H' => D.bk (inSlot j none σ') H', ct := fun σ' H' => D.ct (inSlot j none σ') H' } (inSlot j (some (.ref a)) σ) (upd H a (exoH a cls d))) ∧
      (b = false → wCl K Wout D r cls d σ H)
inductive HdsG (X : Cx) : List ExceptHandler → List Cl → Prop
  | nil : HdsG X [] []
  | bare {x : Str} {c : Value} {ts : TS} {st : Stmt} {sts : List Stmt} {np hp : Pos} {hds : List ExceptHandler} {l : List Cl} (hc : Names X x c) (hsu : ∀ (a : Addr) (pn : List (Addr × Obj)), PSs (X.suite a pn) (st :: sts) ts) (r : HdsG X hds l) :
      HdsG X (.ExceptHandler (some (.Name x np)) none (st :: sts) hp :: hds) ((c, none, ts) :: l)
  | named {x n : Str} {i : Nat} {c : Value} {ts : TS} {st : Stmt} {sts : List Stmt} {np hp : Pos} {hds : List ExceptHandler} {l : List Cl} (hc : Names X x c) (hi : X.N[i]? = some n) (hk : X.env.kindOf n = some .local) (hsu : ∀ (a : Addr) (pn : List (Addr × Obj)), PSs (X.suite a pn) (st :: sts) ts) (r : HdsG X hds l) :
      HdsG X (.ExceptHandler (some (.Name x np)) (some n) (st :: sts) hp :: hds) ((c, some i, ts) :: l)
section
variable {X : Cx} {body orelse : List Stmt} {h₀ : ExceptHandler} {hds : List ExceptHandler} {l : List Cl} {pos : Pos} {tb : WX → TS} {u : TS} {Wout : WX}
theorem ps_try_gen (hs : X.stack = X.env :: X.outer) (hf : X.env.frame = some X.env.locals) (hN : X.N.Nodup) (hex : X.ex = []) (tk : Takes X Wout)
    (hb : ∀ (W : WX) (pn : List (Addr × Obj)) (xe : Value → Shared → Prop), Takes (X.tr pn xe) W → PassesOwn (model X.prog X.w) X.A X.env xe → PSs (X.tr pn xe) body (tb W))
    (ho : PSs X orelse u) (hh : HdsG X (h₀ :: hds) l) : PS X (.Try body (h₀ :: hds) orelse [] pos) (fun D σ H => tb (wCl X.K Wout D l) { D with nx := u D } σ H) := by
  refine ⟨fun pins s σ H D I start => ?_⟩
  have okX := I.ok
  have frX : X.A.frames = some (X.env :: X.outer) := okX.frames.trans (congrArg some hs)
  refine wpAny_Try_except ?_
  have caught : ∀ (xe2 : Value → Shared → Prop) (e : Value) (s1 : Shared), XE (X.tr (X.pn ++ pins) xe2) (wCl X.K Wout D l) e s1 → wpAny (model X.prog X.w) X.A (noteFrame e X.env) (fun _ s2 => wpAny (model X.prog X.w) X.A (setFlight e none) (fun _ s3 =>
      wpAny (model X.prog X.w) X.A (handleBy e X.env (h₀ :: hds)) (SP X pins D) X.xe s3) X.xe s2) X.xe s1 := by
    intro xe2 e s1 air
    obtain ⟨a, G, sI, ps1, σ1, H1, cls, d, rfl, J1, nb, up, sky, na, os, bare, wish⟩ := air
    have J : Inv X pins σ1 H1 sI := J1.ofTry okX
    rw [show (X.tr (X.pn ++ pins) xe2).stack = X.env :: X.outer from hs] at sky
    refine Sky.land Zc.steady frX hf sky fun g1 fl1 up1 => ?_
    have K1 : Inv X pins σ1 H1 { s1 with heap := g1 } := J.landed nb fl1.1 (up.trans up1) os bare
    obtain ⟨ob1, vs1, at1, zc1, fd1⟩ := fl1.there
    have outOfFr : ∀ {h : Heap} {ob : Obj} {vs : Array Value}, h.FunFrames G (X.env :: X.outer) → h.get? a = some ob → ob.data = .fields vs → a ∉ frs (X.env :: X.outer) := fun {h ob vs} ff q dd hm => by
      obtain ⟨_, w1, w2, w3⟩ := ff.mem hm
      rw [q] at w2
      cases w2
      exact w3 _ dd
    have nfr := outOfFr fl1.2.2.1 at1 fd1
    have nl : a ≠ X.env.locals := fun z => nfr (List.mem_filterMap.mpr ⟨X.env, List.mem_cons_self, by rw [hf, z]⟩)
    -- all that stood in sI is another object
    have other : ∀ b u, sI.heap.get? b = some u → b ≠ a := fun b u q z => by
      subst z
      by_cases hm : b ∈ frs X.stack
      · rw [hs] at hm
        exact nfr hm
      · have z1 := nb b u q hm
        have z2 : G.get? b = none := fl1.2.1
        rw [z1] at z2
        cases z2
    have npn : ∀ q ∈ X.pn ++ pins, q.1 ≠ a := fun q hq => other _ _ (J.pin q hq).1
    have ncl : ∀ y c, X.env.cells.lookup y = some c → c ≠ a := fun y c q => by
      obtain ⟨v, ob, z, _⟩ := J.cell y c q
      exact other _ _ z
    have ns0 : ∀ b u, X.s_0.heap.get? b = some u → b ≠ a := fun b u q => by
      obtain ⟨u', z⟩ := J.base.there b u q (by rw [hex]; exact fun z => nomatch z)
      exact other _ _ z
    have nF : a ∉ X.fs := fun hm => by
      obtain ⟨en, he, q⟩ := List.mem_filterMap.mp hm
      exact nfr (List.mem_filterMap.mpr ⟨en, List.mem_cons_of_mem _ he, q⟩)
    have S1 := K1.suite at1 fd1 na nl nF
    have clauses : ∀ {hd2 : List ExceptHandler} {l2 : List Cl}, HdsG X hd2 l2 → wCl X.K Wout D l2 cls d σ1 H1 → wpAny (model X.prog X.w) X.A (handleBy (.ref a) X.env hd2) (SP X pins D) X.xe { s1 with heap := g1 } := by
      intro hd2 l2 hk
      have LT : PySem.W.Looks (model X.prog X.w) g1 (typeOf (.ref a)) cls := fun A2 Q2 E2 s2 k q => wpAny_typeOf_ref (k _ _ at1) (by rw [zc1.1]; exact q)
      have test : ∀ {x : Str} {c : Value} {np : Pos}, Names X x c → ∀ {Q2 : Value → Shared → Prop} {E2 : Value → Shared → Prop}, Q2 c { s1 with heap := g1 } → wpAny (model X.prog X.w) (X.A.mark (some (.ref a))) (eval (.Name x np) X.env) Q2 E2 { s1 with heap := g1 } := by
        intro x c np hc Q2 E2 q
        obtain ⟨hg, hdb, hm | ⟨hm, hv, hnn⟩⟩ := hc
        · exact ld_glob (X := X.suite a ((a, ob1) :: (X.pn ++ pins))) S1 hg hm q hdb
        · exact ld_blt (X := X.suite a ((a, ob1) :: (X.pn ++ pins))) S1 hg hm hv q hnn hdb
      induction hk with
      | nil =>
        intro w
        refine wpAny_handleBy_nil ?_
        obtain ⟨f1, f2, f3, ob, vs, T, oT, ts2, z1, z2, z3, z4, z5⟩ := id fl1
        unfold PySem.passOn
        refine wpAny_bind (wpAny_field z1 z3 z4 ?_)
        rw [if_neg (by simp : ¬ ((Value.ref T == Value.none) = true))]
        have on : wpAny (model X.prog X.w) X.A (setFlight (.ref a) X.env.frame) (fun _ s4 => wpAny (model X.prog X.w) X.A (throw (.ref a) : Sem Flow) (SP X pins D) X.xe s4) X.xe { s1 with heap := g1 } := by
          rw [hf]
          refine HandSPX.setFlight_upZ fl1 fun g2 held up2 => wpAny_throw (tk _ _ ?_)
          exact ⟨a, G, sI, pins, σ1, H1, cls, d, rfl, J, nb, (up.trans up1).trans up2, .inr (.inr (by rw [hs]; exact held)), na, os, bare, w⟩
        first
          | exact wpAny_bind (wpAny_pure (wpAny_bind on))
          | exact wpAny_bind on
      | @bare x c ts st sts np hp hds2 l2 hc hsu r ih =>
        intro w
        obtain ⟨b, hb1, yes, no⟩ := w
        refine wpAny_handleBy_cons (codeAny_handlers_test ?_) (by intro q; cases q)
        refine test hc ((PySem.W.exm_one (M := model X.prog X.w) K1.kIn LT hb1).here ?_)
        cases b with
        | false => exact ih (no rfl)
        | true =>
          refine codeAny_handlers_suite ?_
          refine HandSPX.lands_againZ fl1 fun g2 fl2 up2 => ?_
          have K2 : Inv X pins σ1 H1 { s1 with heap := g2 } := J.landed nb fl2.1 ((up.trans up1).trans up2) os bare
          obtain ⟨ob2, vs2, at2, zc2, fd2⟩ := fl2.there
          have K3 := Eng.Inv.toSuite (Inv.track (o := exoH a cls d) K2 na nl ncl npn ns0 (exoH_ok at2 zc2 fd2)) a
          refine wpAny_mono ((hsu a (X.pn ++ pins)).run [] _ σ1 _ _ K3 (yes rfl a na)) (fun f s6 hsp => ?_) (fun _ _ z => False.elim z)
          cases f with
          | ret v6 =>
            obtain ⟨y6, σ6, H6, J6, r6, q6⟩ := hsp
            exact ⟨_, _, _, Eng.Inv.fromSuite J6 okX, r6, q6⟩
          | next =>
            obtain ⟨σ6, H6, J6, q6⟩ := hsp
            exact ⟨_, _, Eng.Inv.fromSuite J6 okX, q6⟩
          | brk =>
            obtain ⟨σ6, H6, J6, q6⟩ := hsp
            exact ⟨_, _, Eng.Inv.fromSuite J6 okX, q6⟩
          | cont =>
            obtain ⟨σ6, H6, J6, q6⟩ := hsp
            exact ⟨_, _, Eng.Inv.fromSuite J6 okX, q6⟩
      | @named x n i c ts st sts np hp hds2 l2 hc hi hkd hsu r ih =>
        intro w
        obtain ⟨b, hb1, yes, no⟩ := w
        refine wpAny_handleBy_cons (codeAny_handlers_test ?_) (by intro q; cases q)
        refine test hc ((PySem.W.exm_one (M := model X.prog X.w) K1.kIn LT hb1).here ?_)
        cases b with
        | false => exact ih (no rfl)
        | true =>
          refine codeAny_handlers_suite_as ?_
          refine HandSPX.lands_againZ fl1 fun g2 fl2 up2 => ?_
          have K2 : Inv X pins σ1 H1 { s1 with heap := g2 } := J.landed nb fl2.1 ((up.trans up1).trans up2) os bare
          obtain ⟨ob2, vs2, at2, zc2, fd2⟩ := fl2.there
          have K3 := Eng.Inv.toSuite (Inv.track (o := exoH a cls d) K2 na nl ncl npn ns0 (exoH_ok at2 zc2 fd2)) a
          refine store_ok (X := X.suite a (X.pn ++ pins)) (v := .ref a) K3 hN hi (.inl hkd) rfl (fun s5 K5 => ?_) (.inr hkd)
          refine wpAny_mono ((hsu a (X.pn ++ pins)).run [] s5 _ _ _ K5 (yes rfl a na)) (fun f s6 hsp => ?_) (fun _ _ z => False.elim z)
          have gone : ∀ {σ6 : L2.St} {H6 : Hp} {Q6 : Shared → Prop}, Inv (X.suite a (X.pn ++ pins)) [] σ6 H6 s6 → (∀ s7, Inv X pins (σ6.set i none) H6 s7 → Q6 s7) →
              wpAny (model X.prog X.w) X.A (do bindName X.env n .none; unbindBehindTheSuite X.env n hp) (fun _ s7 => Q6 s7) X.xe s6 := fun {σ6 H6 Q6} K6 hq => gone_ok (Eng.Inv.fromSuite K6 okX) hN hi hkd hq
          cases f with
          | ret v6 =>
            obtain ⟨y6, σ6, H6, J6, r6, q6⟩ := hsp
            exact gone J6 fun s7 J7 => ⟨_, _, _, J7, r6, q6⟩
          | next =>
            obtain ⟨σ6, H6, J6, q6⟩ := hsp
            exact gone J6 fun s7 J7 => ⟨_, _, J7, q6⟩
          | brk =>
            obtain ⟨σ6, H6, J6, q6⟩ := hsp
            exact gone J6 fun s7 J7 => ⟨_, _, J7, q6⟩
          | cont =>
            obtain ⟨σ6, H6, J6, q6⟩ := hsp
            exact gone J6 fun s7 J7 => ⟨_, _, J7, q6⟩
    exact clauses hh wish
  refine wpAny_mono ((hb (wCl X.K Wout D l) (X.pn ++ pins) (fun e s1 => wpAny (model X.prog X.w) X.A (noteFrame e X.env) (fun _ s2 => wpAny (model X.prog X.w) X.A (setFlight e none) (fun _ s3 =>
    wpAny (model X.prog X.w) X.A (handleBy e X.env (h₀ :: hds)) (SP X pins D) X.xe s3) X.xe s2) X.xe s1) (fun e s1 air => caught _ e s1 air) PassesOwn.looking).run [] s σ H { D with nx := u D } (I.toTry _) start) (fun f s1 hsp => ?_) (fun e s1 he => he)
  · cases f with
    | next =>
      obtain ⟨σ1, H1, J1, q⟩ := hsp
      exact ho.run pins s1 σ1 H1 D (J1.ofTry okX) q
    | ret v1 =>
      obtain ⟨v, σ1, H1, J1, r, q⟩ := hsp
      exact ⟨v, σ1, H1, J1.ofTry okX, r, q⟩
    | brk =>
      obtain ⟨σ1, H1, J1, q⟩ := hsp
      exact ⟨σ1, H1, J1.ofTry okX, q⟩
    | cont =>
      obtain ⟨σ1, H1, J1, q⟩ := hsp
      exact ⟨σ1, H1, J1.ofTry okX, q⟩
end
end Eng

set_option maxHeartbeats 2000000
/-! The engine, part 11: raise, try, isinstance of what was caught. -/
namespace Eng
open PySem PySem.Spec PyProof.Rows L2
variable [TabCfg]
/-- which class is below which -/
abbrev IsaT := Str → Str → Option Bool
/-- the table is what the written part says -/
structure IsaOk (K : PySem.W.Frag) (mg : Str → Option Value) (isa : IsaT) (isaT : Str → String → Option Bool) : Prop where
  exm : ∀ y c b Cy Cc, isa y c = some b → mg y = some (.ref Cy) → mg c = some (.ref Cc) → PySem.W.exmOne K (.ref Cy) (.ref Cc) = some b
  kit : ∀ y c b Cy Cc, isa y c = some b → mg y = some (.ref Cy) → mg c = some (.ref Cc) → PySem.W.kitOne K (.ref Cy) (.ref Cc) = some b
  kitT : ∀ y (n : String) b Cy, isaT y n = some b → mg y = some (.ref Cy) → PySem.W.kitOne K (.ref Cy) (.type n) = some b
  exc : ∀ y c b Cy, isa y c = some b → mg y = some (.ref Cy) → ExcC K Cy
  excT : ∀ y n b Cy, isaT y n = some b → mg y = some (.ref Cy) → ExcC K Cy
/-! ### raise -/
abbrev Mk' := Env' → Sto → R Exn
def tMK (K : PySem.W.Frag) (mg : Str → Option Value) (W : WX) (m : Mk') : L2.St → Hp → XK → Prop := fun σ H Q => ∃ β S ρ, Rl K mg β H S ∧ En K mg β H ρ σ ∧ Po K mg W σ β H (m ρ S) fun x β' _ H' => ∀ cls od, Xd K mg β' H' cls od x → Q cls od H'
structure MK (X : Cx) (W : WX) (e : Expr) (m : Mk') : Prop where
  made : PMk X e (tMK X.K X.mg W m)
def sRaise (m : Mk') : Ms := fun ρ S => (m ρ S).st ρ fun x S1 => .ex x ρ S1
def mK0 (c : Str) : Mk' := fun _ S => .ok ⟨c, []⟩ S
section
variable {X : Cx} {W : WX} {pos p : Pos} {e : Expr}
theorem ms_raise {m : Mk'} (tk : Takes X W) (h : MK X W e m) (hc : X.calm = true := by rfl) : MS X W (.Raise (some e) none pos) (sRaise m) := by
  refine ⟨PS.weak (ps_raise hc tk h.made) fun D σ H ⟨β, S, ρ, rl, en, q⟩ => ⟨β, S, ρ, rl, en, (PoS.st q en).mono fun x β1 S1 H1 x1 r1 q1 cls od xd => ?_⟩⟩
  exact q1 cls od β1 H1 σ .refl r1 (en.ext x1) xd
/-- C(): a class of exceptions without an own __init__ -/
theorem mk_none {x : Str} {C : Addr} {bmB : List Value} {B newId initId : String} (F : ExcBaseFacts B newId initId bmB) (q : PySem.W.excIn X.K C bmB newId = true) (gC : X.mg x = some (.ref C)) (kC : PySem.W.keepIn X.K (.ref C) = true) (r : Raises X (.ref C)) (hg : Gl X x := by rfl)
    (hdb : (x == ("__debug__" : Str)) = false := by decide) : MK X W (.Call (.Name x p) [] [] pos) (mK0 x) := by
  refine ⟨fun pins s σ H Q I ⟨β, S, ρ, rl, en, w⟩ => ?_⟩
  refine wpAny_Call_Name_kw (ld_glob I hg gC ?_ hdb)
  refine PySem.W.callWith_K0 I.kIn kC ?_
  obtain ⟨bm, N, nm, qn, bs, hdct, sn, sub, ab, col, dd, k0, k1, k2, k3, k5, mN, hC, hN, hni, T⟩ := exc_obj I.kIn q
  refine wpAny_call_exc_subT F T hC hN hni (fun h' e' made => ?_) (by show 0 ≤ sizeLine; exact Nat.zero_le _)
  exact mk_of I made r (w β H .refl rl _ _ ⟨C, gC, rfl, .inl ⟨rfl, rfl⟩⟩) (I.hok.gone made.new)
end
/-! ### try -/
abbrev Hd := Str × Option Nat × Ms
def slotD (j : Option Nat) (o : Option D) (ρ : Env') : Env' := match j with
  | none => ρ
  | some i => ρ.set i o
/-- behind a suite -/
def behind (j : Option Nat) : RS → RS
  | .fl (.nx ρ) S => .fl (.nx (slotD j none ρ)) S
  | .fl (.rt d) S => .fl (.rt d) S
  | _ => .stuck
def hRun (isa : IsaT) : List Hd → Exn → Env' → Sto → RS
  | [], x, ρ, S => .ex x ρ S
  | (c, j, m) :: r, x, ρ, S => match isa x.cls c with
    | some true => behind j (m (slotD j (some (.ref S.length)) ρ) (S ++ [.exn x.cls x.fs]))
    | some false => hRun isa r x ρ S
    | none => .stuck
def sTry (isa : IsaT) (b : Ms) (hs : List Hd) (els : Ms) : Ms := fun ρ S => match b ρ S with
  | .fl (.nx ρ1) S1 => els ρ1 S1
  | .ex x ρ1 S1 => hRun isa hs x ρ1 S1
  | r => r
theorem En.unset {K : PySem.W.Frag} {mg : Str → Option Value} {β : List Addr} {H : Hp} {ρ : Env'} {σ : L2.St} (e : En K mg β H ρ σ) (i : Nat) : En K mg β H (ρ.set i none) (σ.set i none) := by
  refine ⟨by rw [List.length_set, List.length_set]; exact e.len, fun j d q => ?_⟩
  by_cases hj : i = j
  · subst hj
    by_cases hl : i < ρ.length
    · rw [List.getElem?_set_self hl] at q
      cases q
    · rw [List.getElem?_eq_none (by rw [List.length_set]; omega)] at q
      cases q
  · rw [List.getElem?_set_ne hj] at q ⊢
    exact e.at' j d q
section
variable {X : Cx} {W : WX} {pos : Pos} {isa : IsaT} {isaT : Str → String → Option Bool}
structure HdE (X : Cx) (W : WX) (isa : IsaT) (hds : List ExceptHandler) (hs : List Hd) : Prop where
  run : ∃ l, HdsG X hds l ∧ ∀ (D : Ends) (x : Exn) (ρ : Env') (S : Sto) (cls : Value) (od : Option Addr) (β : List Addr) (H : Hp) (σ : L2.St), Rl X.K X.mg β H S → En X.K X.mg β H ρ σ → Xd X.K X.mg β H cls od x → PoS X.K X.mg W β H (hRun isa hs x ρ S) D → wCl X.K W D l cls od σ H
theorem hde_nil : HdE X W isa [] [] := ⟨[], .nil, fun D x ρ S cls od β H σ rl en xd q => q cls od β H σ .refl rl en xd⟩
theorem suite_in {D : Ends} {x : Exn} {ρ : Env'} {S : Sto} {od : Option Addr} {β : List Addr} {H : Hp} {σ : L2.St} {a C : Addr} {j : Option Nat} {m : Ms} (rl : Rl X.K X.mg β H S) (en : En X.K X.mg β H ρ σ) (hC : X.mg x.cls = some (.ref C)) (hf : Fx X.K X.mg β H od x.fs) (na : H a = none)
    (q : PoS X.K X.mg W β H (behind j (m (slotD j (some (.ref S.length)) ρ) (S ++ [.exn x.cls x.fs]))) D) :
    tMS X.K X.mg W0 m { nx := fun σ' H' => D.nx (inSlot j none σ') H', rt := D.rt, bk := fun σ' H' => D.bk (inSlot j none σ') H', ct := fun σ' H' => D.ct (inSlot j none σ') H' } (inSlot j (some (.ref a)) σ) (upd H a (exoH a (.ref C) od)) := by
  have x1 : Xt X.K β H (β ++ [a]) (upd H a (exoH a (.ref C) od)) := xt_new na
  have r1 : Rl X.K X.mg (β ++ [a]) (upd H a (exoH a (.ref C) od)) (S ++ [.exn x.cls x.fs]) := rl.new na ⟨C, od, hC, upd_same, hf.ext x1⟩
  have hat : (β ++ [a])[S.length]? = some a := by
    rw [← rl.len, List.getElem?_append_right (Nat.le_refl _), Nat.sub_self]
    rfl
  have e1 : En X.K X.mg (β ++ [a]) (upd H a (exoH a (.ref C) od)) (slotD j (some (.ref S.length)) ρ) (inSlot j (some (.ref a)) σ) := by
    cases j with
    | none => exact en.ext x1
    | some i => exact (en.ext x1).set i (.ref hat)
  refine ⟨_, _, _, r1, e1, ?_⟩
  cases h : m (slotD j (some (.ref S.length)) ρ) (S ++ [.exn x.cls x.fs]) with
  | fl f S2 =>
    rw [h] at q
    cases f with
    | nx ρ2 =>
      intro β2 H2 σ2 x2 r2 e2
      refine q β2 H2 _ (x1.trans x2) r2 ?_
      cases j with
      | none => exact e2
      | some i => exact e2.unset i
    | rt d => exact fun β2 H2 v x2 r2 hv => q β2 H2 v (x1.trans x2) r2 hv
  | ex z ρ2 S2 => rw [h] at q; exact q.elim
  | stuck => rw [h] at q; exact q.elim
theorem hde_bare {c : Str} {C : Addr} {m : Ms} {st : Stmt} {sts : List Stmt} {np hp : Pos} {hds : List ExceptHandler} {hs : List Hd} (T : IsaOk X.K X.mg isa isaT) (hm : X.mg c = some (.ref C)) (hsu : ∀ (a : Addr) (pn : List (Addr × Obj)), MSs (X.suite a pn) W0 (st :: sts) m) (r : HdE X W isa hds hs)
    (hg : Gl X c := by rfl) (hdb : (c == ("__debug__" : Str)) = false := by decide) : HdE X W isa (.ExceptHandler (some (.Name c np)) none (st :: sts) hp :: hds) ((c, none, m) :: hs) := by
  obtain ⟨l, h1, h2⟩ := r
  refine ⟨_, .bare (ts := tMS X.K X.mg W0 m) ⟨hg, hdb, .inl hm⟩ (fun a pn => (hsu a pn).ps) h1, fun D x ρ S cls od β H σ rl en xd q => ?_⟩
  unfold hRun at q
  obtain ⟨Cy, hy, rfl, hf⟩ := id xd
  cases e : isa x.cls c with
  | none => rw [e] at q; exact q.elim
  | some b =>
    refine ⟨b, T.exm _ _ _ _ _ e hy hm, fun eb a na => ?_, fun eb => ?_⟩
    · subst eb
      rw [e] at q
      exact suite_in (j := none) rl en hy hf na q
    · subst eb
      rw [e] at q
      exact h2 D x ρ S _ od β H σ rl en xd q
theorem hde_named {c n : Str} {i : Nat} {C : Addr} {m : Ms} {st : Stmt} {sts : List Stmt} {np hp : Pos} {hds : List ExceptHandler} {hs : List Hd} (T : IsaOk X.K X.mg isa isaT) (hm : X.mg c = some (.ref C)) (hsu : ∀ (a : Addr) (pn : List (Addr × Obj)), MSs (X.suite a pn) W0 (st :: sts) m) (r : HdE X W isa hds hs)
    (hi : X.N[i]? = some n := by rfl) (hk : X.env.kindOf n = some .local := by rfl) (hg : Gl X c := by rfl) (hdb : (c == ("__debug__" : Str)) = false := by decide) : HdE X W isa (.ExceptHandler (some (.Name c np)) (some n) (st :: sts) hp :: hds) ((c, some i, m) :: hs) := by
  obtain ⟨l, h1, h2⟩ := r
  refine ⟨_, .named (ts := tMS X.K X.mg W0 m) ⟨hg, hdb, .inl hm⟩ hi hk (fun a pn => (hsu a pn).ps) h1, fun D x ρ S cls od β H σ rl en xd q => ?_⟩
  unfold hRun at q
  obtain ⟨Cy, hy, rfl, hf⟩ := id xd
  cases e : isa x.cls c with
  | none => rw [e] at q; exact q.elim
  | some b =>
    refine ⟨b, T.exm _ _ _ _ _ e hy hm, fun eb a na => ?_, fun eb => ?_⟩
    · subst eb
      rw [e] at q
      exact suite_in (j := some i) rl en hy hf na q
    · subst eb
      rw [e] at q
      exact h2 D x ρ S _ od β H σ rl en xd q
theorem ms_try {body orelse : List Stmt} {h₀ : ExceptHandler} {hds : List ExceptHandler} {hs : List Hd} {mb me : Ms} (hN : X.N.Nodup) (tk : Takes X W)
    (hb : ∀ (W2 : WX) (pn : List (Addr × Obj)) (xe : Value → Shared → Prop), Takes (X.tr pn xe) W2 → PassesOwn (model X.prog X.w) X.A X.env xe → MSs (X.tr pn xe) W2 body mb) (he : MSs X W orelse me) (hh : HdE X W isa (h₀ :: hds) hs)
    (hst : X.stack = X.env :: X.outer := by rfl) (hf : X.env.frame = some X.env.locals := by rfl) (hex : X.ex = [] := by rfl) : MS X W (.Try body (h₀ :: hds) orelse [] pos) (sTry isa mb hs me) := by
  obtain ⟨l, h1, h2⟩ := hh
  refine ⟨PS.weak (ps_try_gen (tb := fun W2 => tMS X.K X.mg W2 mb) hst hf hN hex tk (fun W2 pn xe t2 p2 => (hb W2 pn xe t2 p2).ps) he.ps h1) fun D σ H ⟨β, S, ρ, rl, en, q⟩ => ⟨β, S, ρ, rl, en, ?_⟩⟩
  unfold sTry at q
  cases e : mb ρ S with
  | fl f S1 =>
    rw [e] at q
    cases f with
    | nx ρ1 => exact fun β1 H1 σ1 x1 r1 e1 => ⟨β1, S1, ρ1, r1, e1, PoS.xt q x1⟩
    | rt d => exact q
  | ex x ρ1 S1 =>
    rw [e] at q
    exact fun cls od β1 H1 σ1 x1 r1 e1 xd => h2 D x ρ1 S1 cls od β1 H1 σ1 r1 e1 xd (PoS.xt q x1)
  | stuck => rw [e] at q; exact q.elim
end
/-! ### isinstance(e, C), e an exception that was caught -/
def rIsX (K : PySem.W.Frag) : List V → Hp → VK → Prop := fun xs H Q => ∃ (a C : Addr) (c : V) (cv : Value) (b : Bool), xs = [.ref a, c] ∧ H a = some (exoH a (.ref C) none) ∧ ExcC K C ∧ (∀ u, RelV c u → u = cv) ∧ PySem.W.kitOne K (.ref C) cv = some b ∧ Q (.bl b) H
theorem call_isX {X : Cx} : CallR X (.builtin "isinstance") (rIsX X.K) := by
  intro pins s σ H xs us Q I r h
  obtain ⟨a, C, c, cv, b, rfl, ha, T, hcv, e, q⟩ := h
  cases r with
  | cons rx rr =>
    cases rr with
    | cons rt rr =>
      cases rr
      cases rx
      have ec := hcv _ rt
      subst ec
      have z : ObjOk X.prog X.w H s.heap a (.ext fun h => ∃ (oe : Obj) (vs : Array Value), h.get? a = some oe ∧ Zc (.ref C) none oe ∧ oe.data = .fields vs) := I.hok a _ ha
      obtain ⟨⟨oe, vs, hget, ⟨z1, z2⟩, hd⟩, _⟩ := z
      have J : PySem.W.InstAt s.heap a oe C none := by
        obtain ⟨oc, od, oda, osl⟩ := oe
        dsimp only at z1 z2 hd
        subst z1 z2 hd
        exact ⟨hget, rfl, rfl, trivial⟩
      exact PySem.W.kia_one (PySem.W.handS_kitx_exc T.hg T.hk T.hs T.hd T.ha T.hn T.ht T.hm) I.kIn J e (fun z => nomatch z) fun tk => ⟨.bl b, H, I.kept (t' := tk) fun _ _ z => z, rfl, q⟩
def fIsX (isa : IsaT) (isaT : Str → String → Option Bool) : FA
  | [.ref n, .gl c], S => match S[n]? with
    | some (.exn y []) => (isa y c).map fun b => (.bl b, S)
    | _ => none
  | [.ref n, .ty c], S => match S[n]? with
    | some (.exn y []) => (isaT y c).map fun b => (.bl b, S)
    | _ => fIsi [.ref n, .ty c] S
  | ds, S => fIsi ds S
section
variable {X : Cx} {W : WX} {pos p : Pos} {isa : IsaT} {isaT : Str → String → Option Bool}
theorem o_isX (T : IsaOk X.K X.mg isa isaT) : OpA X (fun xs H Q => rIsX X.K xs H Q ∨ rIsi X.K xs H Q) (fIsX isa isaT) := by
  intro β H S xs vs d S' Q r hv e k
  have base : fIsi xs S = some (d, S') → rIsX X.K vs H Q ∨ rIsi X.K vs H Q := fun e => .inr (o_isi β H S xs vs d S' Q r hv e k)
  have bare : ∀ {n : Nat} {y : Str} {v : V}, Vd X.K X.mg β H v (.ref n) → S[n]? = some (.exn y []) → ∃ a Ca, v = .ref a ∧ X.mg y = some (.ref Ca) ∧ H a = some (exoH a (.ref Ca) none) := by
    intro n y v h1 q
    obtain ⟨a, rfl, h3⟩ := h1.ref_inv
    obtain ⟨Ca, od, h4, h5, h6⟩ := r.at' n a _ h3 q
    rcases h6 with ⟨_, rfl⟩ | ⟨_, _, _, h8, _⟩
    · exact ⟨a, Ca, rfl, h4, h5⟩
    · exact absurd rfl h8
  unfold fIsX at e
  split at e
  · rename_i n c
    obtain ⟨v, w, rfl, h1, h2⟩ := hv.two
    split at e
    · rename_i y q
      cases q2 : isa y c with
      | none => rw [q2] at e; cases e
      | some b =>
        rw [q2] at e
        cases e
        obtain ⟨a, Ca, rfl, h4, h5⟩ := bare h1 q
        cases h2 with
        | gl h7 => exact .inl ⟨a, Ca, _, _, b, rfl, h5, T.exc _ _ _ _ q2 h4, fun u ru => ru, T.kit _ _ _ _ _ q2 h4 h7, k β H _ .refl r (.bl b)⟩
    · cases e
  · rename_i n c
    obtain ⟨v, w, rfl, h1, h2⟩ := hv.two
    split at e
    · rename_i y q
      cases q2 : isaT y c with
      | none => rw [q2] at e; cases e
      | some b =>
        rw [q2] at e
        cases e
        obtain ⟨a, Ca, rfl, h4, h5⟩ := bare h1 q
        cases h2 with
        | ty => exact .inl ⟨a, Ca, _, _, b, rfl, h5, T.excT _ _ _ _ q2 h4, fun u ru => ru, T.kitT _ _ _ _ q2 h4, k β H _ .refl r (.bl b)⟩
    · exact base e
  · exact base e
theorem me_isx {e c : Expr} {m mc : Mx} (T : IsaOk X.K X.mg isa isaT) (hm : X.mg "isinstance" = none) (ha : ME X W e m) (hc : ME X W c mc) (hg : Gl X "isinstance" := by rfl) (hs : starEach [e, c] X.env = [(false, eval e X.env), (false, eval c X.env)] := by rfl) (hs2 : starEach [c] X.env = [(false, eval c X.env)] := by rfl) :
    ME X W (.Call (.Name "isinstance" p) [e, c] [] pos) (mCB (fIsX isa isaT) (mCons m (mCons mc mNil))) :=
  me_cb (CallR.or call_isX call_isi) (o_isX T) (ma_cons ha (ma_cons hc ma_nil hs2) (by rw [hs, hs2])) hm (by decide +kernel) hg (by decide) (by decide) (by rw [hs, hs2]) (by rw [hs2]; rfl)
end
/-! rows for simp -/
section
variable {ρ : Env'} {S : Sto} {m : Mk'} {c : Str} {isa : IsaT} {isaT : Str → String → Option Bool} {b els : Ms} {hs : List Hd} {x : Exn} {n : Nat} {y : Str}
@[simp] theorem ev_raise : sRaise m ρ S = (m ρ S).st ρ fun x S1 => .ex x ρ S1 := nr rfl
@[simp] theorem ev_mk0 : mK0 c ρ S = .ok ⟨c, []⟩ S := nr rfl
@[simp] theorem ev_try : sTry isa b hs els ρ S = match b ρ S with
  | .fl (.nx ρ1) S1 => els ρ1 S1
  | .ex x ρ1 S1 => hRun isa hs x ρ1 S1
  | r => r := nr rfl
@[simp] theorem ev_hnil : hRun isa [] x ρ S = .ex x ρ S := nr rfl
@[simp] theorem ev_hcons {j : Option Nat} {m : Ms} {r : List Hd} : hRun isa ((c, j, m) :: r) x ρ S = match isa x.cls c with
    | some true => behind j (m (slotD j (some (.ref S.length)) ρ) (S ++ [.exn x.cls x.fs]))
    | some false => hRun isa r x ρ S
    | none => .stuck := nr rfl
@[simp] theorem ev_beh0 {j : Option Nat} : behind j (.fl (.nx ρ) S) = .fl (.nx (slotD j none ρ)) S := nr rfl
@[simp] theorem ev_beh1 {j : Option Nat} {d : D} : behind j (.fl (.rt d) S) = .fl (.rt d) S := nr rfl
@[simp] theorem ev_slot0 {o : Option D} : slotD none o ρ = ρ := nr rfl
@[simp] theorem ev_slot1 {o : Option D} : slotD (some n) o ρ = ρ.set n o := nr rfl
@[simp] theorem fIsX_gl : fIsX isa isaT [.ref n, .gl c] S = match S[n]? with
    | some (.exn y []) => (isa y c).map fun b => (.bl b, S)
    | _ => none := nr rfl
@[simp] theorem fIsX_ty {t : String} : fIsX isa isaT [.ref n, .ty t] S = match S[n]? with
    | some (.exn y []) => (isaT y t).map fun b => (.bl b, S)
    | _ => fIsi [.ref n, .ty t] S := nr rfl
@[simp] theorem fIsX_non {t : String} : fIsX isa isaT [.non, .ty t] S = fIsi [.non, .ty t] S := nr rfl
@[simp] theorem fIsX_int {i : Int} {t : String} : fIsX isa isaT [.int i, .ty t] S = fIsi [.int i, .ty t] S := nr rfl
@[simp] theorem fIsX_bl {i : Bool} {t : String} : fIsX isa isaT [.bl i, .ty t] S = fIsi [.bl i, .ty t] S := nr rfl
@[simp] theorem fIsX_str {i : Str} {t : String} : fIsX isa isaT [.str i, .ty t] S = fIsi [.str i, .ty t] S := nr rfl
@[simp] theorem fIsX_tup {i : List D} {t : String} : fIsX isa isaT [.tup i, .ty t] S = fIsi [.tup i, .ty t] S := nr rfl
end
end Eng

/-! The engine, part 12: the table of classes from its rows. -/
namespace Eng
open PySem PySem.Spec PyProof.Rows L2
variable [TabCfg]
def isaOf (l : List (Str × Str × Bool)) : IsaT := fun y c => (l.find? fun p => decide (p.1 = y ∧ p.2.1 = c)).map (·.2.2)
def isaTOf (l : List (Str × String × Bool)) : Str → String → Option Bool := fun y c => (l.find? fun p => decide (p.1 = y ∧ p.2.1 = c)).map (·.2.2)
def excB (K : PySem.W.Frag) (D : Addr) : Bool :=
  decide (PySem.W.findIn K (.ref D) "__getattribute__" = some (some (.builtin "BaseException.__getattribute__"))) && (decide (PySem.W.findIn K (.ref D) "__getattr__" = some none) && (decide (PySem.W.subIn K (.ref D) (.type "BaseException") = some true) && (PySem.W.hasDictIn K D && (
  decide (PySem.W.findIn K (.ref D) "__class__" = some (some (.builtin "object.__class__"))) && (decide (PySem.W.specialIn K (.builtin "object.__class__") "__get__" = some (some (.builtin "getset_descriptor.__get__"))) && (decide (PySem.W.takesIn K (.builtin "object.__class__") = some true) && decide (PySem.W.mroIn K D (.type "object") = some true)))))))
theorem excB_ok {K : PySem.W.Frag} {D : Addr} (h : excB K D = true) : ExcC K D := by
  unfold excB at h
  simp only [Bool.and_eq_true, decide_eq_true_eq] at h
  obtain ⟨h1, h2, h3, h4, h5, h6, h7, h8⟩ := h
  exact ⟨h1, h2, h3, h4, h5, h6, h7, h8⟩
def allL {α : Type} (P : α → Prop) : List α → Prop
  | [] => True
  | p :: r => P p ∧ allL P r
theorem allL_mem {α : Type} {P : α → Prop} : ∀ {l : List α}, allL P l → ∀ p ∈ l, P p
  | [], _, _, h => nomatch h
  | q :: r, ⟨h1, h2⟩, p, h => by
    rcases List.mem_cons.mp h with rfl | h
    · exact h1
    · exact allL_mem h2 p h
theorem isaOk_of {K : PySem.W.Frag} {mg : Str → Option Value} {l : List (Str × Str × Bool)} {lt : List (Str × String × Bool)}
    (h : allL (fun p => ∃ Cy Cc, mg p.1 = some (.ref Cy) ∧ mg p.2.1 = some (.ref Cc) ∧ PySem.W.exmOne K (.ref Cy) (.ref Cc) = some p.2.2 ∧ PySem.W.kitOne K (.ref Cy) (.ref Cc) = some p.2.2 ∧ ExcC K Cy) l)
    (ht : allL (fun p => ∃ Cy, mg p.1 = some (.ref Cy) ∧ PySem.W.kitOne K (.ref Cy) (.type p.2.1) = some p.2.2 ∧ ExcC K Cy) lt) : IsaOk K mg (isaOf l) (isaTOf lt) := by
  have at1 : ∀ y c b, isaOf l y c = some b → ∃ Cy Cc, mg y = some (.ref Cy) ∧ mg c = some (.ref Cc) ∧ PySem.W.exmOne K (.ref Cy) (.ref Cc) = some b ∧ PySem.W.kitOne K (.ref Cy) (.ref Cc) = some b ∧ ExcC K Cy := by
    intro y c b e
    unfold isaOf at e
    cases q : l.find? fun p => decide (p.1 = y ∧ p.2.1 = c) with
    | none => rw [q] at e; cases e
    | some p =>
      rw [q] at e
      cases e
      have z := List.find?_some q
      obtain ⟨rfl, rfl⟩ := of_decide_eq_true z
      exact allL_mem h p (List.mem_of_find?_eq_some q)
  have at2 : ∀ y c b, isaTOf lt y c = some b → ∃ Cy, mg y = some (.ref Cy) ∧ PySem.W.kitOne K (.ref Cy) (.type c) = some b ∧ ExcC K Cy := by
    intro y c b e
    unfold isaTOf at e
    cases q : lt.find? fun p => decide (p.1 = y ∧ p.2.1 = c) with
    | none => rw [q] at e; cases e
    | some p =>
      rw [q] at e
      cases e
      have z := List.find?_some q
      obtain ⟨rfl, rfl⟩ := of_decide_eq_true z
      exact allL_mem ht p (List.mem_of_find?_eq_some q)
  refine ⟨fun y c b Cy Cc e h1 h2 => ?_, fun y c b Cy Cc e h1 h2 => ?_, fun y n b Cy e h1 => ?_, fun y c b Cy e h1 => ?_, fun y n b Cy e h1 => ?_⟩
  · obtain ⟨u, v, z1, z2, z3, z4, z5⟩ := at1 y c b e
    rw [h1] at z1; cases z1
    rw [h2] at z2; cases z2
    exact z3
  · obtain ⟨u, v, z1, z2, z3, z4, z5⟩ := at1 y c b e
    rw [h1] at z1; cases z1
    rw [h2] at z2; cases z2
    exact z4
  · obtain ⟨u, z1, z2, z3⟩ := at2 y n b e
    rw [h1] at z1; cases z1
    exact z2
  · obtain ⟨u, v, z1, z2, z3, z4, z5⟩ := at1 y c b e
    rw [h1] at z1; cases z1
    exact z5
  · obtain ⟨u, z1, z2, z3⟩ := at2 y n b e
    rw [h1] at z1; cases z1
    exact z3
/-! ### numbers' texts -/
/-- str(n) -/
def num (n : Int) : Str := Str.ofString (toString n)
@[simp high] theorem fStr_num {i : Int} {S : Sto} : fStr [.int i] S = if i.natAbs.log2 < 1920 then some (.str (num i), S) else none := nr rfl
theorem num_len {n : Int} {k : Nat} (hk : 0 < k) (h : n.natAbs < 10 ^ k) : (num n).length ≤ k + 1 := by
  have e := int_text_length_le10 hk h
  unfold num
  rw [PySem.ofString_length]
  exact e
end Eng

/-! The engine, part 13: walks over reversed(..), zip(.., ..), enumerate(..). -/
namespace Eng
open PySem PySem.Spec PyProof.Rows L2
variable [TabCfg]
def itRv (r n : Nat) : ItD := ⟨n, fun i S => (lstAt S r).bind (·[n - 1 - i]?), fun _ => true⟩
def itRvT (ds : List D) : ItD := ⟨ds.length, fun i _ => ds[ds.length - 1 - i]?, fun _ => true⟩
def zipNx (xs ys : List D) (i : Nat) : Option D := match xs[i]?, ys[i]? with
  | some x, some y => some (.tup [x, y])
  | _, _ => none
def itZ (r s c : Nat) : ItD := ⟨c, fun i S => match lstAt S r, lstAt S s with
  | some xs, some ys => zipNx xs ys i
  | _, _ => none, fun S => match lstAt S r, lstAt S s with
  | some xs, some ys => decide (xs.length ≤ c ∨ ys.length ≤ c)
  | _, _ => false⟩
def itZT (xs ys : List D) : ItD := ⟨min xs.length ys.length, fun i _ => zipNx xs ys i, fun _ => true⟩
def itE (r c : Nat) : ItD := ⟨c, fun i S => ((lstAt S r).bind (·[i]?)).map fun x => .tup [.int (i : Nat), x], fun S => match lstAt S r with
  | some xs => decide (xs.length ≤ c)
  | none => false⟩
section
variable {K : PySem.W.Frag} {mg : Str → Option Value} {β : List Addr} {H : Hp}
theorem itRv_ok {r n : Nat} {a : Addr} (h : β[r]? = some a) : ItOk K mg β H (Itv K a n) (itRv r n) := by
  intro β' H' S' x rl
  refine ⟨fun i d hi hd => ?_, fun _ => Nat.le_refl _⟩
  have hd' : (lstAt S' r).bind (·[n - 1 - i]?) = some d := hd
  cases q : lstAt S' r with
  | none => rw [q] at hd'; cases hd'
  | some ds =>
    rw [q] at hd'
    obtain ⟨xs, h1, h2⟩ := lst_read rl (x.at' h) q
    obtain ⟨v, h3, h4⟩ := h2.get (show ds[n - 1 - i]? = some d from hd')
    refine ⟨⟨hi, xs, v, h1, h3⟩, fun y H'' hy => ?_⟩
    obtain ⟨rfl, hy⟩ := hy
    have e := hy xs h1
    rw [h3] at e
    cases e
    exact ⟨.refl, rl, h4⟩
theorem itRvT_ok {ds : List D} {a : Addr} {xs : List V} (h : H a = some (.tup xs)) (hv : Vds K mg β H xs ds) : ItOk K mg β H (RT.ItvT K a xs.length) (itRvT ds) := by
  intro β' H' S' x rl
  have h' : SqT K H' a xs := .of (x.tup _ _ h)
  have hl := hv.length
  refine ⟨fun i d hi hd => ?_, fun _ => by show xs.length ≤ ds.length; omega⟩
  obtain ⟨v, h3, h4⟩ := (hv.ext x).get (show ds[ds.length - 1 - i]? = some d from hd)
  rw [← hl] at h3
  refine ⟨⟨by rw [hl]; exact hi, xs, v, h', h3⟩, fun y H'' hy => ?_⟩
  obtain ⟨rfl, hy⟩ := hy
  have e := hy xs h'
  rw [h3] at e
  cases e
  exact ⟨.refl, rl, h4⟩
theorem zip_at {xs ys : List D} {i : Nat} {d : D} (h : zipNx xs ys i = some d) : ∃ x y, xs[i]? = some x ∧ ys[i]? = some y ∧ d = .tup [x, y] := by
  unfold zipNx at h
  split at h
  · rename_i x y e1 e2
    cases h
    exact ⟨x, y, e1, e2, rfl⟩
  · cases h
theorem pair_made {S : Sto} {T : Addr} {u v : V} {x y : D} (rl : Rl K mg β H S) (hT : H T = none) (hu : Vd K mg β H u x) (hv : Vd K mg β H v y) : Xt K β H β (upd H T (.tup [u, v])) ∧ Rl K mg β (upd H T (.tup [u, v])) S ∧ Vd K mg β (upd H T (.tup [u, v])) (.ref T) (.tup [x, y]) := by
  have x1 : Xt K β H β (upd H T (.tup [u, v])) := xt_new' hT
  exact ⟨x1, rl.tup hT, .tup upd_same (.cons (hu.ext x1) (.cons (hv.ext x1) .nil))⟩
theorem itZ_ok {r s c : Nat} {a b : Addr} (ha : β[r]? = some a) (hb : β[s]? = some b) : ItOk K mg β H (Itz K a b) (itZ r s c) := by
  intro β' H' S' x rl
  refine ⟨fun i d hi hd => ?_, fun hf => ?_⟩
  · unfold itZ at hd
    dsimp only at hd
    split at hd
    · rename_i xs ys e1 e2
      obtain ⟨p, q, h1, h2, rfl⟩ := zip_at hd
      obtain ⟨us, k1, k2⟩ := lst_read rl (x.at' ha) e1
      obtain ⟨vs, k3, k4⟩ := lst_read rl (x.at' hb) e2
      obtain ⟨u, k5, k6⟩ := k2.get h1
      obtain ⟨v, k7, k8⟩ := k4.get h2
      refine ⟨⟨us, vs, u, v, k1, k3, k5, k7⟩, fun y H'' hy => ?_⟩
      obtain ⟨T, u', v', rfl, hT, rfl, g1, g2⟩ := hy
      have z1 := g1 us k1
      have z2 := g2 vs k3
      rw [k5] at z1
      rw [k7] at z2
      cases z1
      cases z2
      exact pair_made rl hT k6 k8
    · cases hd
  · unfold itZ at hf
    dsimp only at hf
    split at hf
    · rename_i xs ys e1 e2
      obtain ⟨us, k1, k2⟩ := lst_read rl (x.at' ha) e1
      obtain ⟨vs, k3, k4⟩ := lst_read rl (x.at' hb) e2
      exact ⟨us, vs, k1, k3, by rw [k2.length, k4.length]; exact of_decide_eq_true hf⟩
    · cases hf
theorem itZT_ok {xs ys : List D} {a b : Addr} {us vs : List V} (ha : H a = some (.tup us)) (hb : H b = some (.tup vs)) (hu : Vds K mg β H us xs) (hv : Vds K mg β H vs ys) : ItOk K mg β H (RZ.ItzT K a b) (itZT xs ys) := by
  intro β' H' S' x rl
  have k1 : SqT K H' a us := .of (x.tup _ _ ha)
  have k3 : SqT K H' b vs := .of (x.tup _ _ hb)
  refine ⟨fun i d hi hd => ?_, fun _ => ⟨us, vs, k1, k3, ?_⟩⟩
  · obtain ⟨p, q, h1, h2, rfl⟩ := zip_at (show zipNx xs ys i = some d from hd)
    obtain ⟨u, k5, k6⟩ := (hu.ext x).get h1
    obtain ⟨v, k7, k8⟩ := (hv.ext x).get h2
    refine ⟨⟨us, vs, u, v, k1, k3, k5, k7⟩, fun y H'' hy => ?_⟩
    obtain ⟨T, u', v', rfl, hT, rfl, g1, g2⟩ := hy
    have z1 := g1 us k1
    have z2 := g2 vs k3
    rw [k5] at z1
    rw [k7] at z2
    cases z1
    cases z2
    exact pair_made rl hT k6 k8
  · show us.length ≤ min xs.length ys.length ∨ vs.length ≤ min xs.length ys.length
    rw [hu.length, hv.length]
    omega
theorem itE_ok {r c : Nat} {a : Addr} (ha : β[r]? = some a) : ItOk K mg β H (Ite K a) (itE r c) := by
  intro β' H' S' x rl
  refine ⟨fun i d hi hd => ?_, fun hf => ?_⟩
  · have hd' : ((lstAt S' r).bind (·[i]?)).map (fun x => D.tup [.int (i : Nat), x]) = some d := hd
    cases q : lstAt S' r with
    | none => rw [q] at hd'; cases hd'
    | some ds =>
      rw [q] at hd'
      cases q2 : ds[i]? with
      | none =>
        have : (some ds).bind (fun x => x[i]?) = none := q2
        rw [this] at hd'
        cases hd'
      | some y =>
        have : (some ds).bind (fun x => x[i]?) = some y := q2
        rw [this] at hd'
        cases hd'
        obtain ⟨us, k1, k2⟩ := lst_read rl (x.at' ha) q
        obtain ⟨u, k5, k6⟩ := k2.get q2
        refine ⟨⟨us, u, k1, k5⟩, fun z H'' hy => ?_⟩
        obtain ⟨T, u', rfl, hT, rfl, g1⟩ := hy
        have z1 := g1 us k1
        rw [k5] at z1
        cases z1
        exact pair_made rl hT (.int _) k6
  · unfold itE at hf
    dsimp only at hf
    cases q : lstAt S' r with
    | none => rw [q] at hf; cases hf
    | some ds =>
      rw [q] at hf
      obtain ⟨us, k1, k2⟩ := lst_read rl (x.at' ha) q
      exact ⟨us, k1, by rw [k2.length]; exact of_decide_eq_true hf⟩
end
def revI (d : D) (S : Sto) : R ItD := match d with
  | .ref n => match lstAt S n with
    | some xs => .ok (itRv n xs.length) S
    | none => .stuck
  | .tup ds => .ok (itRvT ds) S
  | _ => .stuck
def mRev (m : Mx) : Mi := fun ρ S => (m ρ S).bind revI
def zipI (ds : List D) (S : Sto) : R ItD := match ds with
  | [.ref n, .ref k] => match lstAt S n, lstAt S k with
    | some xs, some ys => .ok (itZ n k (min xs.length ys.length)) S
    | _, _ => .stuck
  | [.tup xs, .tup ys] => .ok (itZT xs ys) S
  | _ => .stuck
def mZip (m : Ma) : Mi := fun ρ S => (m ρ S).bind zipI
def enumI (ds : List D) (S : Sto) : R ItD := match ds with
  | [.ref n] => match lstAt S n with
    | some xs => .ok (itE n xs.length) S
    | none => .stuck
  | _ => .stuck
def mEnum (m : Ma) : Mi := fun ρ S => (m ρ S).bind enumI
section
variable {X : Cx} {W : WX} {tg e e2 : Expr} {m m2 : Mx} {pos p tpos : Pos} {elts : List Expr} {kk : Nat}
theorem mi_rev (hm : X.mg "reversed" = none) (h : ME X W e m) (hg : Gl X "reversed" := by rfl) (hs : starEach [e] X.env = (false, eval e X.env) :: starEach [] X.env := by rfl) : MI X W tg (.Call (.Name "reversed" p) [e] [] pos) (mRev m) := by
  refine ⟨PI.weak (RT.pi_revA hg hm h.pe hs) fun σ H Q ⟨β, S, ρ, rl, en, q⟩ => ⟨β, S, ρ, rl, en, (Po.bind q).mono fun d β1 S1 H1 x1 r1 q1 v hv => ?_⟩⟩
  cases d with
  | ref n =>
    obtain ⟨a, rfl, h1⟩ := hv.ref_inv
    unfold revI at q1
    dsimp only at q1
    cases q2 : lstAt S1 n with
    | none => rw [q2] at q1; exact q1.elim
    | some xs =>
      rw [q2] at q1
      obtain ⟨vs, h2, h3⟩ := lst_read r1 h1 q2
      refine ⟨a, vs, rfl, .inl ⟨h2, ?_⟩⟩
      rw [h3.length]
      exact q1 β1 H1 .refl r1 _ (itRv_ok h1)
  | tup ds =>
    obtain ⟨a, vs, rfl, h1, h2⟩ := hv.tup_at
    exact ⟨a, vs, rfl, .inr ⟨.of h1, q1 β1 H1 .refl r1 _ (itRvT_ok h1 h2)⟩⟩
  | _ => exact q1.elim
theorem mi_zip (hm : X.mg "zip" = none) (ha : ME X W e m) (hb : ME X W e2 m2) (hg : Gl X "zip" := by rfl) (hs : starEach [e, e2] X.env = (false, eval e X.env) :: starEach [e2] X.env := by rfl) (hs2 : starEach [e2] X.env = [(false, eval e2 X.env)] := by rfl) (hpl : (backTo pos (starEach [e2] X.env)).any (·.1) = false := by rfl) :
    MI X W (.Tuple elts kk tpos) (.Call (.Name "zip" p) [e, e2] [] pos) (mZip (mCons m (mCons m2 mNil))) := by
  have hA : MA X W [e, e2] (mCons m (mCons m2 mNil)) := ma_cons ha (ma_cons hb ma_nil hs2) hs
  refine ⟨PI.weak (RZ.pi_zipA hg hm hA.pa hs hpl) fun σ H Q ⟨β, S, ρ, rl, en, q⟩ => ⟨β, S, ρ, rl, en, (Po.bind q).mono fun ds β1 S1 H1 x1 r1 q1 vs hv => ?_⟩⟩
  unfold zipI at q1
  split at q1
  · rename_i n k
    obtain ⟨u, v, rfl, h1, h2⟩ := hv.two
    obtain ⟨a, rfl, h3⟩ := h1.ref_inv
    obtain ⟨b, rfl, h4⟩ := h2.ref_inv
    split at q1
    · rename_i xs ys e1 e2
      obtain ⟨us, k1, k2⟩ := lst_read r1 h3 e1
      obtain ⟨ws, k3, k4⟩ := lst_read r1 h4 e2
      exact ⟨a, b, us, ws, rfl, .inl ⟨k1, k3, q1 β1 H1 .refl r1 _ (itZ_ok h3 h4)⟩⟩
    · exact q1.elim
  · rename_i xs ys
    obtain ⟨u, v, rfl, h1, h2⟩ := hv.two
    obtain ⟨a, us, rfl, h3, h4⟩ := h1.tup_at
    obtain ⟨b, ws, rfl, h5, h6⟩ := h2.tup_at
    exact ⟨a, b, us, ws, rfl, .inr ⟨.of h3, .of h5, q1 β1 H1 .refl r1 _ (itZT_ok h3 h5 h4 h6)⟩⟩
  · exact q1.elim
theorem mi_enum (hm : X.mg "enumerate" = none) (ha : ME X W e m) (hg : Gl X "enumerate" := by rfl) (hs : starEach [e] X.env = [(false, eval e X.env)] := by rfl) : MI X W (.Tuple elts kk tpos) (.Call (.Name "enumerate" p) [e] [] pos) (mEnum (mCons m mNil)) := by
  have hA : MA X W [e] (mCons m mNil) := ma_cons ha ma_nil hs
  refine ⟨PI.weak (pi_enum hg hm hA.pa hs) fun σ H Q ⟨β, S, ρ, rl, en, q⟩ => ⟨β, S, ρ, rl, en, (Po.bind q).mono fun ds β1 S1 H1 x1 r1 q1 vs hv => ?_⟩⟩
  unfold enumI at q1
  split at q1
  · rename_i n
    obtain ⟨u, rfl, h1⟩ := hv.one
    obtain ⟨a, rfl, h3⟩ := h1.ref_inv
    cases e1 : lstAt S1 n with
    | none => rw [e1] at q1; exact q1.elim
    | some xs =>
      rw [e1] at q1
      obtain ⟨us, k1, k2⟩ := lst_read r1 h3 e1
      exact ⟨a, us, rfl, k1, q1 β1 H1 .refl r1 _ (itE_ok h3)⟩
  · exact q1.elim
end
section
variable {ρ : Env'} {S : Sto} {m : Mx} {ma : Ma} {n k : Nat} {xs ys : List D}
@[simp] theorem ev_rev : mRev m ρ S = (m ρ S).bind revI := nr rfl
@[simp] theorem revI_tup : revI (.tup xs) S = .ok (itRvT xs) S := nr rfl
@[simp] theorem revI_ref : revI (.ref n) S = match lstAt S n with
    | some xs => .ok (itRv n xs.length) S
    | none => .stuck := nr rfl
@[simp] theorem ev_zip : mZip ma ρ S = (ma ρ S).bind zipI := nr rfl
@[simp] theorem zipI_tup : zipI [.tup xs, .tup ys] S = .ok (itZT xs ys) S := nr rfl
@[simp] theorem zipI_ref : zipI [.ref n, .ref k] S = match lstAt S n, lstAt S k with
    | some xs, some ys => .ok (itZ n k (min xs.length ys.length)) S
    | _, _ => .stuck := nr rfl
@[simp] theorem ev_enum : mEnum ma ρ S = (ma ρ S).bind enumI := nr rfl
@[simp] theorem enumI_ref : enumI [.ref n] S = match lstAt S n with
    | some xs => .ok (itE n xs.length) S
    | none => .stuck := nr rfl
end
end Eng

/-! The engine, part 14: methods of dicts. -/
namespace Eng
open PySem PySem.Spec PyProof.Rows L2
variable [TabCfg]
/-- the place of a dict -/
def dictAt (o : D) (S : Sto) : Option Nat := match o with
  | .ref n => match S[n]? with
    | some (.dk _) => some n
    | some (.dt _) => some n
    | _ => none
  | _ => none
theorem dictAt_ok {K : PySem.W.Frag} {mg : Str → Option Value} {β : List Addr} {H : Hp} {S : Sto} {v : V} {o : D} {n : Nat} (r : Rl K mg β H S) (h : Vd K mg β H v o) (e : dictAt o S = some n) : ∃ a, v = .ref a ∧ β[n]? = some a ∧ IsD H a := by
  cases o with
  | ref m =>
    obtain ⟨a, rfl, h1⟩ := h.ref_inv
    unfold dictAt at e
    dsimp only at e
    cases q : S[m]? with
    | none => rw [q] at e; cases e
    | some ob =>
      rw [q] at e
      have ho := r.at' m a ob h1 q
      cases ob with
      | dk kvs =>
        cases e
        obtain ⟨xs, h2, _⟩ := ho
        exact ⟨a, rfl, h1, .inl ⟨xs, .inl h2⟩⟩
      | dt kvs =>
        cases e
        obtain ⟨xs, h2, _⟩ := ho
        exact ⟨a, rfl, h1, .inr ⟨xs, .inl h2⟩⟩
      | _ => cases e
  | _ => cases e
def orD (o : Option D) (d : D) : D := match o with
  | some x => x
  | none => d
def getD1 (n : Nat) (y d : D) (S : Sto) : R D := match dGet S n y with
  | some o => .ok (orD o d) S
  | none => .stuck
def mGet1 (mo mk : Mx) : Mx := fun ρ S => (mo ρ S).bind fun o S1 => match dictAt o S1 with
  | some n => (mk ρ S1).bind fun y S2 => getD1 n y .non S2
  | none => .stuck
def mGet2 (mo mk md : Mx) : Mx := fun ρ S => (mo ρ S).bind fun o S1 => match dictAt o S1 with
  | some n => (mk ρ S1).bind fun y S2 => (md ρ S2).bind fun d S3 => getD1 n y d S3
  | none => .stuck
/-- d.pop(k), d.pop(k, x): keys of ints and texts -/
def popD (n : Nat) (y : D) (d : Option D) (S : Sto) : R D := match S[n]?, keyD y with
  | some (.dk kvs), some k => match valD kvs k with
    | some x => .ok x (S.set n (.dk (dropD kvs k)))
    | none => match d with
      | some x => .ok x S
      | none => .stuck
  | _, _ => .stuck
def mPop1 (mo mk : Mx) : Mx := fun ρ S => (mo ρ S).bind fun o S1 => match dictAt o S1 with
  | some n => (mk ρ S1).bind fun y S2 => popD n y none S2
  | none => .stuck
section
variable {X : Cx} {W : WX} {pos apos : Pos} {o e f : Expr} {mo me mf : Mx}
theorem getD_ok {K : PySem.W.Frag} {mg : Str → Option Value} {σ : L2.St} {β : List Addr} {H : Hp} {S : Sto} {n : Nat} {a : Addr} {u z : V} {y d : D} {Q : VK} (r : Rl K mg β H S) (h : β[n]? = some a) (hy : Vd K mg β H u y) (hz : Vd K mg β H z d) (q : Po K mg W σ β H (getD1 n y d S) fun x β' _ H' => ∀ v, Vd K mg β' H' v x → Q v H') :
    ∃ ov, DGet H a u ov ∧ Q (ov.getD z) H := by
  unfold getD1 at q
  cases e1 : dGet S n y with
  | none => rw [e1] at q; exact q.elim
  | some od =>
    rw [e1] at q
    obtain ⟨ov, g, w⟩ := dGet_ok r h hy e1
    refine ⟨ov, g, q β H .refl r _ ?_⟩
    cases ov <;> cases od <;> first | exact w.elim | exact hz | exact w
theorem me_get1 (hu : X.A.units + 1 < cLine) (ho : ME X W o mo) (he : ME X W e me) (m : M1 X o "get" apos e pos := by exact ⟨rfl, rfl, rfl, rfl⟩) : ME X W (.Call (.Attribute o "get" apos) [e] [] pos) (mGet1 mo me) := by
  refine ⟨PE.weak (pe_dget1 hu ho.pe he.pe m) fun σ H Q ⟨β, S, ρ, rl, en, q⟩ => ⟨β, S, ρ, rl, en, (Po.bind q).mono fun d β1 S1 H1 x1 r1 q1 v hv => ?_⟩⟩
  cases e1 : dictAt d S1 with
  | none => rw [e1] at q1; exact q1.elim
  | some n =>
    rw [e1] at q1
    obtain ⟨a, rfl, h1, h2⟩ := dictAt_ok r1 hv e1
    exact ⟨a, rfl, h2, β1, S1, ρ, r1, en.ext x1, (Po.bind q1).mono fun y β2 S2 H2 x2 r2 q2 u hu2 => getD_ok (z := .non) r2 (x2.at' h1) hu2 .non q2⟩
theorem me_get2 (hu : X.A.units + 1 < cLine) (ho : ME X W o mo) (he : ME X W e me) (hf : ME X W f mf) (m : M2 X o "get" apos e f pos := by exact ⟨rfl, rfl, rfl, rfl⟩) : ME X W (.Call (.Attribute o "get" apos) [e, f] [] pos) (mGet2 mo me mf) := by
  refine ⟨PE.weak (pe_dget2 hu ho.pe he.pe hf.pe m) fun σ H Q ⟨β, S, ρ, rl, en, q⟩ => ⟨β, S, ρ, rl, en, (Po.bind q).mono fun d β1 S1 H1 x1 r1 q1 v hv => ?_⟩⟩
  cases e1 : dictAt d S1 with
  | none => rw [e1] at q1; exact q1.elim
  | some n =>
    rw [e1] at q1
    obtain ⟨a, rfl, h1, h2⟩ := dictAt_ok r1 hv e1
    exact ⟨a, rfl, h2, β1, S1, ρ, r1, en.ext x1, (Po.bind q1).mono fun y β2 S2 H2 x2 r2 q2 u hu2 => ⟨β2, S2, ρ, r2, en.ext (x1.trans x2), (Po.bind q2).mono fun z β3 S3 H3 x3 r3 q3 w hw => getD_ok r3 (x3.at' (x2.at' h1)) (hu2.ext x3) hw q3⟩⟩
theorem me_pop1 (ho : ME X W o mo) (he : ME X W e me) (m : M1 X o "pop" apos e pos := by exact ⟨rfl, rfl, rfl, rfl⟩) : ME X W (.Call (.Attribute o "pop" apos) [e] [] pos) (mPop1 mo me) := by
  refine ⟨PE.weak (pe_dpop1 ho.pe he.pe m) fun σ H Q ⟨β, S, ρ, rl, en, q⟩ => ⟨β, S, ρ, rl, en, (Po.bind q).mono fun d β1 S1 H1 x1 r1 q1 v hv => ?_⟩⟩
  cases e1 : dictAt d S1 with
  | none => rw [e1] at q1; exact q1.elim
  | some n =>
    rw [e1] at q1
    obtain ⟨a, rfl, h1, h2⟩ := dictAt_ok r1 hv e1
    refine ⟨a, rfl, h2, β1, S1, ρ, r1, en.ext x1, (Po.bind q1).mono fun y β2 S2 H2 x2 r2 q2 u hu2 => ?_⟩
    have hb := x2.at' h1
    unfold popD at q2
    split at q2
    · rename_i kvs k e2 e3
      obtain ⟨xs, h3, h4⟩ := r2.at' n a _ hb e2
      have hk := keyD_ok hu2 e3
      subst hk
      have hval := h4.val k
      cases e4 : valD kvs k with
      | none => rw [e4] at q2; exact q2.elim
      | some x =>
        rw [e4] at q2 hval
        cases e5 : valV xs k with
        | none => rw [e5] at hval; exact hval.elim
        | some w =>
          rw [e5] at hval
          obtain ⟨r3, x3⟩ := r2.write (o := .dK (dropK xs k)) (b' := .dk (dropD kvs k)) hb e2 rfl rfl fun x => ⟨_, upd_same, (h4.drop k).ext x⟩
          exact ⟨xs, k, w, h3, rfl, e5, q2 β2 _ x3 r3 w (Vd.ext x3 hval)⟩
    · exact q2.elim
end
section
variable {ρ : Env'} {S : Sto} {mo mk md : Mx} {n : Nat} {d : D}
@[simp] theorem ev_get1 : mGet1 mo mk ρ S = (mo ρ S).bind fun o S1 => match dictAt o S1 with
  | some n => (mk ρ S1).bind fun y S2 => getD1 n y .non S2
  | none => .stuck := nr rfl
@[simp] theorem ev_get2 : mGet2 mo mk md ρ S = (mo ρ S).bind fun o S1 => match dictAt o S1 with
  | some n => (mk ρ S1).bind fun y S2 => (md ρ S2).bind fun d S3 => getD1 n y d S3
  | none => .stuck := nr rfl
@[simp] theorem ev_pop1 : mPop1 mo mk ρ S = (mo ρ S).bind fun o S1 => match dictAt o S1 with
  | some n => (mk ρ S1).bind fun y S2 => popD n y none S2
  | none => .stuck := nr rfl
end
end Eng

/-! The engine, part 15: tuples of whole numbers and texts, compared. -/
namespace Eng
open PySem PySem.Spec PyProof.Rows L2
variable [TabCfg]
def isPt : D → Bool
  | .int _ => true
  | .str _ => true
  | _ => false
def ptPy : D → PyData
  | .int i => .int i
  | .str z => .str z
  | _ => .none
theorem toPys_pts {S : Sto} {n : Nat} : ∀ ds : List D, (∀ d ∈ ds, isPt d = true) → toPys S n ds = some (ds.map ptPy)
  | [], _ => by unfold toPys; rfl
  | d :: r, h => by
    have h1 := h d (List.mem_cons_self ..)
    rw [toPys, toPys_pts r fun x hx => h x (List.mem_cons_of_mem _ hx)]
    cases d with
    | int i => rw [toPy]; rfl
    | str z => rw [toPy]; rfl
    | _ => cases h1
theorem eqv_pts {d e : D} (h : isPt d = true) (h2 : isPt e = true) : PyData.eqv (ptPy d) (ptPy e) = true ↔ d = e := by
  cases d <;> first | (cases h; done) | skip
  all_goals cases e <;> first | (cases h2; done) | skip
  all_goals simp [ptPy, PyData.eqv]
theorem eqvAll_pts : ∀ xs ys : List D, (∀ d ∈ xs, isPt d = true) → (∀ d ∈ ys, isPt d = true) → (PyData.eqvAll (xs.map ptPy) (ys.map ptPy) = true ↔ xs = ys)
  | [], [], _, _ => by simp [PyData.eqvAll]
  | [], y :: ys, _, _ => by simp [PyData.eqvAll]
  | x :: xs, [], _, _ => by simp [PyData.eqvAll]
  | x :: xs, y :: ys, h1, h2 => by
    have ih := eqvAll_pts xs ys (fun d hd => h1 d (List.mem_cons_of_mem _ hd)) fun d hd => h2 d (List.mem_cons_of_mem _ hd)
    have e := eqv_pts (h1 x (List.mem_cons_self ..)) (h2 y (List.mem_cons_self ..))
    rw [List.map_cons, List.map_cons, PyData.eqvAll, Bool.and_eq_true, ih, e]
    simp
def okPt : D → Bool
  | .str z => PyData.strOk z
  | _ => true
theorem canLay_pts : ∀ xs : List D, (∀ d ∈ xs, okPt d = true) → PyData.canLayAll0 (xs.map ptPy) = true
  | [], _ => by simp [PyData.canLayAll0]
  | x :: xs, h => by
    have h1 := h x (List.mem_cons_self ..)
    rw [List.map_cons, PyData.canLayAll0, canLay_pts xs fun d hd => h d (List.mem_cons_of_mem _ hd)]
    cases x with
    | str z =>
      simp only [ptPy, PyData.canLay0, Bool.and_true]
      exact h1
    | _ => simp [ptPy, PyData.canLay0]
theorem depth_pts : ∀ xs : List D, PyData.depthAll (xs.map ptPy) = 0
  | [] => by simp [PyData.depthAll]
  | x :: xs => by
    rw [List.map_cons, PyData.depthAll, depth_pts xs]
    cases x <;> simp [ptPy, PyData.depth]
theorem eqD_pts {S : Sto} {xs ys : List D} (h1 : ∀ d ∈ xs, isPt d = true) (h2 : ∀ d ∈ ys, isPt d = true) (k1 : ∀ d ∈ xs, okPt d = true) (k2 : ∀ d ∈ ys, okPt d = true) : ∃ b, eqD S (.tup xs) (.tup ys) = some b ∧ (b = true ↔ xs = ys) := by
  have s : ∀ zs : List D, (∀ d ∈ zs, okPt d = true) → SeqAt.shaped (.tuple (zs.map ptPy)) = true := by
    intro zs hk
    unfold SeqAt.shaped
    rw [PyData.canLay0, canLay_pts zs hk, PyData.depth, depth_pts]
    rfl
  refine ⟨_, ?_, eqvAll_pts xs ys h1 h2⟩
  show deepEq S _ _ = _
  unfold deepEq
  rw [toPy, toPy, toPys_pts xs h1, toPys_pts ys h2]
  dsimp only [Option.map]
  rw [s xs k1, s ys k2]
  simp only [Bool.and_self, if_true]
  rw [PyData.eqv]
end Eng

/-! The engine, part 16: a while loop that is left by a raise. -/
namespace Eng
open PySem PySem.Spec PyProof.Rows L2
variable [TabCfg]
theorem while_ex {c : Mb} {b : Ms} {ρ ρ2 : Env'} {S S1 S2 : Sto} {x : Exn} (h : c ρ S = .ok true S1) (h1 : b ρ S1 = .ex x ρ2 S2) : sWhile c b ρ S = .ex x ρ2 S2 := by
  refine sWhile_eq (n := 1) ?_ (by intro e; cases e)
  rw [whileF, h]
  simp only [R.st, if_true, h1]
end Eng

set_option maxHeartbeats 2000000
/-! The engine, part 17: own classes: fields, making, methods. -/
namespace Eng
open PySem PySem.Spec PyProof.Rows L2
variable [TabCfg]
/-! ### an instance's fields -/
def putO (f : Str) (d : D) : List (Str × D) → List (Str × D)
  | [] => [(f, d)]
  | (g, x) :: r => if g = f then (g, d) :: r else (g, x) :: putO f d r
section
variable {K : PySem.W.Frag} {mg : Str → Option Value} {β : List Addr} {H : Hp}
theorem Pd.putF {f : Str} {y : V} {d : D} (hv : Vd K mg β H y d) : ∀ {xs : List (Str × V)} {fs : List (Str × D)}, Pd K mg β H xs fs → Pd K mg β H (L2.putF f y xs) (putO f d fs)
  | _, _, .nil => .cons ⟨rfl, hv⟩ .nil
  | _, _, .cons (a := (g, x)) (b := (g', x')) h t => by
    obtain ⟨h1, h2⟩ := h
    have h1 : g = g' := h1
    subst h1
    unfold L2.putF putO
    by_cases e : g = f
    · rw [if_pos e, if_pos e]
      exact .cons ⟨rfl, hv⟩ t
    · rw [if_neg e, if_neg e]
      exact .cons ⟨rfl, h2⟩ (Pd.putF hv t)
theorem Pd.look {f : Str} {d : D} : ∀ {xs : List (Str × V)} {fs : List (Str × D)}, Pd K mg β H xs fs → fs.lookup f = some d → ∃ v, xs.lookup f = some v ∧ Vd K mg β H v d
  | _, _, .nil, e => by cases e
  | _, _, .cons (a := (g, x)) (b := (g', x')) h t, e => by
    obtain ⟨h1, h2⟩ := h
    have h1 : g = g' := h1
    subst h1
    rw [List.lookup_cons] at e ⊢
    cases q : f == g with
    | true => rw [q] at e; cases e; exact ⟨x, rfl, h2⟩
    | false => rw [q] at e; exact Pd.look t e
theorem Pd.look0 {f : Str} : ∀ {xs : List (Str × V)} {fs : List (Str × D)}, Pd K mg β H xs fs → fs.lookup f = none → xs.lookup f = none
  | _, _, .nil, _ => rfl
  | _, _, .cons (a := (g, x)) (b := (g', x')) h t, e => by
    obtain ⟨h1, h2⟩ := h
    have h1 : g = g' := h1
    subst h1
    rw [List.lookup_cons] at e ⊢
    cases q : f == g with
    | true => rw [q] at e; cases e
    | false => rw [q] at e; exact Pd.look0 t e
theorem mem_of_look {f : Str} {d : D} : ∀ {fs : List (Str × D)}, fs.lookup f = some d → ∃ p ∈ fs, p.1 = f
  | [], e => by cases e
  | (g, x) :: r, e => by
    rw [List.lookup_cons] at e
    cases q : f == g with
    | true => exact ⟨(g, x), List.mem_cons_self .., (eq_of_beq q).symm⟩
    | false =>
      rw [q] at e
      obtain ⟨p, h1, h2⟩ := mem_of_look e
      exact ⟨p, List.mem_cons_of_mem _ h1, h2⟩
theorem mem_putO {f : Str} {d : D} {p : Str × D} : ∀ {fs : List (Str × D)}, p ∈ putO f d fs → p.1 = f ∨ p ∈ fs
  | [], h => .inl (by rw [List.mem_singleton.mp h])
  | (g, x) :: r, h => by
    unfold putO at h
    by_cases e : g = f
    · rw [if_pos e] at h
      rcases List.mem_cons.mp h with h | h
      · exact .inl (by rw [h]; exact e)
      · exact .inr (List.mem_cons_of_mem _ h)
    · rw [if_neg e] at h
      rcases List.mem_cons.mp h with h | h
      · exact .inr (by rw [h]; exact List.mem_cons_self ..)
      · rcases mem_putO h with h | h
        · exact .inl h
        · exact .inr (List.mem_cons_of_mem _ h)
end
def fldD (f : Str) (d : D) (S : Sto) : R D := match d with
  | .ref n => match S[n]? with
    | some (.ins _ fs) => match fs.lookup f with
      | some v => .ok v S
      | none => .stuck
    | _ => .stuck
  | _ => .stuck
def mFld (m : Mx) (f : Str) : Mx := fun ρ S => (m ρ S).bind (fldD f)
/-- in these classes nothing stands in the way of the attribute -/
structure FldC (K : PySem.W.Frag) (mg : Str → Option Value) (cs : List Str) (f : Str) : Prop where
  no : ∀ C ∈ cs, ∀ Ca, mg C = some (.ref Ca) → NoAttr K Ca f
def setFld (cs : List Str) (f : Str) (o d : D) (S : Sto) : Option Sto := match o with
  | .ref n => match S[n]? with
    | some (.ins C fs) => if C ∈ cs ∧ fs.length < 1000 then some (S.set n (.ins C (putO f d fs))) else none
    | _ => none
  | _ => none
def sFld (cs : List Str) (mo : Mx) (f : Str) (mv : Mx) : Ms := fun ρ S => (mv ρ S).st ρ fun d S1 => (mo ρ S1).st ρ fun o S2 => match setFld cs f o d S2 with
  | some S3 => .fl (.nx ρ) S3
  | none => .stuck
section
variable {X : Cx} {W : WX} {pos pos' apos p : Pos} {e o : Expr} {es : List Expr} {m mo : Mx} {ma : Ma} {f : Str} {cs : List Str}
theorem ins_of {β : List Addr} {H : Hp} {S : Sto} {n : Nat} {a : Addr} {C : Str} {fs : List (Str × D)} (r : Rl X.K X.mg β H S) (h1 : β[n]? = some a) (h2 : S[n]? = some (.ins C fs)) :
    ∃ Ca dx xs, X.mg C = some (.ref Ca) ∧ H a = some (.ins Ca dx xs) ∧ Pd X.K X.mg β H xs fs ∧ Cls X.K Ca ∧ ∀ p ∈ fs, NoAttr X.K Ca p.1 := r.at' n a _ h1 h2
theorem me_fld (he : ME X W e m) (hb : attributeBase e f X.env (eval e X.env) = eval e X.env := by rfl) : ME X W (.Attribute e f pos) (mFld m f) := by
  refine ⟨PE.weak (pe_fld he.pe hb) fun σ H Q ⟨β, S, ρ, rl, en, p⟩ => ⟨β, S, ρ, rl, en, (show Po X.K X.mg W σ β H ((m ρ S).bind (fldD f)) _ from p).bind.mono fun d β1 S1 H1 x1 r1 q v hv => ?_⟩⟩
  unfold fldD at q
  cases d with
  | ref n =>
    obtain ⟨a, rfl, h1⟩ := hv.ref_inv
    dsimp only at q
    cases e1 : S1[n]? with
    | none => rw [e1] at q; exact q.elim
    | some ob =>
      rw [e1] at q
      cases ob with
      | ins C fs =>
        dsimp only at q
        cases e2 : fs.lookup f with
        | none => rw [e2] at q; exact q.elim
        | some d =>
          rw [e2] at q
          obtain ⟨Ca, dx, xs, g1, g2, g3, g4, g5⟩ := ins_of r1 h1 e1
          obtain ⟨w, g6, g7⟩ := g3.look e2
          obtain ⟨pp, g8, g9⟩ := mem_of_look e2
          exact ⟨a, Ca, dx, xs, w, rfl, g2, g4, by rw [← g9]; exact g5 pp g8, g6, q β1 H1 .refl r1 w g7⟩
      | _ => exact q.elim
  | _ => exact q.elim
theorem len_pd {K : PySem.W.Frag} {mg : Str → Option Value} {β : List Addr} {H : Hp} : ∀ {xs : List (Str × V)} {fs : List (Str × D)}, Pd K mg β H xs fs → xs.length = fs.length
  | _, _, .nil => rfl
  | _, _, .cons _ t => congrArg (· + 1) (len_pd t)
theorem setFld_ok {β : List Addr} {H : Hp} {S S' : Sto} {od d : D} {vo vd : V} (c : FldC X.K X.mg cs f) (r : Rl X.K X.mg β H S) (ho : Vd X.K X.mg β H vo od) (hd : Vd X.K X.mg β H vd d) (e : setFld cs f od d S = some S') :
    ∃ a Ca dx xs, vo = .ref a ∧ H a = some (.ins Ca dx xs) ∧ Cls X.K Ca ∧ NoAttr X.K Ca f ∧ xs.length < 1000 ∧ Rl X.K X.mg β (upd H a (.ins Ca dx (L2.putF f vd xs))) S' ∧ Xt X.K β H β (upd H a (.ins Ca dx (L2.putF f vd xs))) := by
  unfold setFld at e
  cases od with
  | ref n =>
    obtain ⟨a, rfl, h1⟩ := ho.ref_inv
    dsimp only at e
    cases e1 : S[n]? with
    | none => rw [e1] at e; cases e
    | some ob =>
      rw [e1] at e
      cases ob with
      | ins C fs =>
        dsimp only at e
        split at e
        · rename_i hc
          cases e
          obtain ⟨Ca, dx, xs, g1, g2, g3, g4, g5⟩ := ins_of r h1 e1
          have na := c.no C hc.1 Ca g1
          obtain ⟨r', x'⟩ := r.write (o := .ins Ca dx (L2.putF f vd xs)) (b' := .ins C (putO f d fs)) h1 e1 rfl rfl fun x => ⟨Ca, dx, _, g1, upd_same, (g3.putF hd).ext x, g4, fun p hp => by
            rcases mem_putO hp with h | h
            · rw [h]; exact na
            · exact g5 p h⟩
          exact ⟨a, Ca, dx, xs, rfl, g2, g4, na, by rw [len_pd g3]; exact hc.2, r', x'⟩
        · cases e
      | _ => cases e
  | _ => cases e
theorem ms_fld (c : FldC X.K X.mg cs f) (ho : ME X W o mo) (he : ME X W e m) (hs : swapsWith e (some (.Attribute o f pos')) pos.line X.env = pure false := by rfl) : MS X W (.Assign [.Attribute o f pos'] e pos) (sFld cs mo f m) := by
  refine ⟨PS.weak (ps_fld ho.pe he.pe hs) fun D σ H ⟨β, S, ρ, rl, en, p⟩ => ?_⟩
  refine ⟨β, S, ρ, rl, en, (PoS.st p en).mono fun d β1 S1 H1 x1 r1 q1 v hv => ⟨β1, S1, ρ, r1, en.ext x1, (PoS.st q1 (en.ext x1)).mono fun od β2 S2 H2 x2 r2 q2 ov hov => ?_⟩⟩
  cases e4 : setFld cs f od d S2 with
  | none => rw [e4] at q2; exact q2.elim
  | some S4 =>
    rw [e4] at q2
    obtain ⟨a, Ca, dx, xs, g1, g2, g3, g4, g5, r', x'⟩ := setFld_ok c r2 hov (hv.ext x2) e4
    exact ⟨a, Ca, dx, xs, g1, g2, g3, g4, g5, q2 β2 _ σ x' r' (en.ext ((x1.trans x2).trans x'))⟩
/-! ### C(..) -/
def newD (C : Str) (m : List D → Sto → R D) (ds : List D) (S : Sto) : R D := (m (.ref S.length :: ds) (S ++ [.ins C []])).bind fun d S2 => match d with
  | .non => .ok (.ref S.length) S2
  | _ => .stuck
def mNew (C : Str) (m : List D → Sto → R D) (ma : Ma) : Mx := fun ρ S => (ma ρ S).bind (newD C m)
theorem new_run {CX : CXT} {k : Nat} {C f : Addr} {fd : FuncData} {ps : List Str} {sp : Sp} {E : XK} {pins : List (Addr × Obj)} {σ : L2.St} {H : Hp} {s : Shared} {Q : VK} {us : List Value} {vs : List V}
    (M : Mk X.K C f) (F : FnOk X.prog X.w X.K X.mg X.base CX k f fd ps sp) (hr : Room (k + 1) X.A) (hb : Binds X.K fd ps []) (hx : PassesAt CX X σ E) (I : Inv X pins σ H s) (r : Vals vs us)
    (h : ∀ x dx, H x = none → H dx = none → dx ≠ x → sp (.ref x :: vs) (upd (upd H dx (.own x)) x (.ins C dx [])) (fun v H2 => v = .non ∧ Q (.ref x) H2) E) : wpAny (model X.prog X.w) X.A (call (.ref C) us) (EP X pins σ Q) X.xe s := by
  have J := Inv.made (C := C) I
  have at_ := h (s.heap.objs.size + 1) s.heap.objs.size (I.hok.fresh (Nat.le_succ _)) (I.hok.fresh (Nat.le_refl _)) (Nat.ne_of_lt (Nat.lt_succ_self _))
  have rr : Vals (V.ref (s.heap.objs.size + 1) :: vs) (Value.ref (s.heap.objs.size + 1) :: us) := .cons rfl r
  have hlen : (Value.ref (s.heap.objs.size + 1) :: us).length = ps.length := by
    rw [← rr.length]
    exact F.len _ _ _ _ at_
  have hbd := hb _ (Value.ref (s.heap.objs.size + 1) :: us) J.kIn (by rw [List.append_nil]; exact hlen)
  rw [List.append_nil] at hbd
  have run := F.run _ X.stack _ _ ⟨Value.ref (s.heap.objs.size + 1) :: us, []⟩ _ _ _ E (hr.make C us []) (J.env0.make C us []) hbd rr at_
  refine wpAny_call (make_map (f := f) I.kIn M.makes M.init (beq_iff_eq.mp M.fn) (codeAny_mono run fun res s' back => ?_))
  match res, back with
  | .error y, back => exact hx pins _ _ y s' J back
  | .ok (.ret u), back =>
    obtain ⟨v, H', J2, ru, ev, q3⟩ := J.after back
    subst ev
    exact ⟨ru, V.ref (s.heap.objs.size + 1), H', J2, rfl, q3⟩
  | .ok .next, back => exact back.elim
  | .ok .brk, back => exact back.elim
  | .ok .cont, back => exact back.elim
theorem new_sp {n : Nat} {mi : List D → Sto → R D} {C : Str} {Ca : Addr} {σ : L2.St} {β : List Addr} {H : Hp} {S : Sto} {ds : List D} {vs : List V} {Q : VK} (hm : X.mg C = some (.ref Ca)) (cl : Cls X.K Ca) (hn : vs.length + 1 = n) (r : Rl X.K X.mg β H S) (hv : Vds X.K X.mg β H vs ds)
    (q : Po X.K X.mg W σ β H (newD C mi ds S) fun d β' _ H' => ∀ v, Vd X.K X.mg β' H' v d → Q v H') :
    ∀ x dx, H x = none → H dx = none → dx ≠ x → spM X.K X.mg n mi (.ref x :: vs) (upd (upd H dx (.own x)) x (.ins Ca dx [])) (fun v H2 => v = .non ∧ Q (.ref x) H2) (WE W σ) := by
  intro x dx h1 h2 h3
  have hx : upd H dx (.own x) x = none := by rw [upd_ne (fun e => h3 e.symm)]; exact h1
  have x1 : Xt X.K β H β (upd H dx (.own x)) := xt_new' h2
  have x2 : Xt X.K β (upd H dx (.own x)) (β ++ [x]) (upd (upd H dx (.own x)) x (.ins Ca dx [])) := xt_new hx
  have r2 : Rl X.K X.mg (β ++ [x]) (upd (upd H dx (.own x)) x (.ins Ca dx [])) (S ++ [.ins C []]) := (r.tup h2).new hx ⟨Ca, dx, [], hm, upd_same, .nil, cl, fun p hp => by cases hp⟩
  have hat : (β ++ [x])[S.length]? = some x := by
    rw [← r.len, List.getElem?_append_right (Nat.le_refl _), Nat.sub_self]
    rfl
  refine call_sp (X := X) (by rw [List.length_cons]; exact hn) r2 (.cons (.ref hat) (hv.ext (x1.trans x2))) ?_
  refine (Po.bind (show Po X.K X.mg W σ _ _ ((mi (.ref S.length :: ds) (S ++ [.ins C []])).bind fun d S2 => match d with
    | .non => R.ok (D.ref S.length) S2
    | _ => R.stuck) _ from Po.xt q (x1.trans x2))).mono fun d β3 S3 H3 x3 r3 q3 v hv3 => ?_
  cases d with
  | non =>
    cases hv3
    exact ⟨rfl, q3 β3 H3 .refl r3 _ (.ref (x3.at' hat))⟩
  | _ => exact q3.elim
theorem me_new {k j n : Nat} {x : Str} {C fa : Addr} {fd : FuncData} {ps : List Str} {mi : List D → Sto → R D} (M : Mk X.K C fa) (cl : Cls X.K C) (F : FnOk X.prog X.w X.K X.mg X.base (L2.CX X.prog X.w) k fa fd ps (spM X.K X.mg n mi)) (hr : Room j X.A) (hm : X.mg x = some (.ref C)) (hb : Binds X.K fd ps []) (tk : Takes X W) (ha : MA X W (e :: es) ma)
    (hl : ∀ β H vs ds ρ S S', Vds X.K X.mg β H vs ds → ma ρ S = .ok ds S' → vs.length + 1 = n) (hkj : k + 1 ≤ j := by decide) (hg : Gl X x := by rfl) (hdb : (x == ("__debug__" : Str)) = false := by decide) (he : starEach (e :: es) X.env = (false, eval e X.env) :: starEach es X.env := by rfl) (hpl : (backTo pos (starEach es X.env)).any (·.1) = false := by rfl) :
    ME X W (.Call (.Name x p) (e :: es) [] pos) (mNew x mi ma) := by
  refine ⟨⟨fun pins s σ H Q I ⟨β, S, ρ, rl, en, p⟩ => wpAny_Call_Name_kw (ld_glob I hg hm ?_ hdb)⟩⟩
  have q := (show Po X.K X.mg W σ β H ((ma ρ S).bind (newD x mi)) _ from p).bind
  have step : tMA X.K X.mg W ma σ H fun vs H1 => ∀ y dy, H1 y = none → H1 dy = none → dy ≠ y → spM X.K X.mg n mi (.ref y :: vs) (upd (upd H1 dy (.own y)) y (.ins C dy [])) (fun v H2 => v = .non ∧ Q (.ref y) H2) (WE W σ) := by
    refine ⟨β, S, ρ, rl, en, ?_⟩
    cases e1 : ma ρ S with
    | ok ds S1 =>
      rw [e1] at q
      exact fun β1 H1 x1 r1 vs hv => new_sp hm cl (hl β1 H1 vs ds ρ S S1 hv e1) r1 hv (q β1 H1 x1 r1)
    | ex z S1 => rw [e1] at q; exact q
    | stuck => rw [e1] at q; exact q
  exact PySem.W.callWith_K (h₀ := X.base) I.ok.mod.kin M.kp (thn (ha.pa.run pos pins s σ H _ I step) fun us s1 ⟨vs, H1, I1, r, h1⟩ => ⟨I1.kIn, new_run M F (hr.mono hkj) hb (passAt tk σ) I1 r h1⟩) he hpl
theorem me_new0 {k j : Nat} {x : Str} {C fa : Addr} {fd : FuncData} {ps : List Str} {mi : List D → Sto → R D} (M : Mk X.K C fa) (cl : Cls X.K C) (F : FnOk X.prog X.w X.K X.mg X.base (L2.CX X.prog X.w) k fa fd ps (spM X.K X.mg 1 mi)) (hr : Room j X.A) (hm : X.mg x = some (.ref C)) (hb : Binds X.K fd ps []) (tk : Takes X W)
    (hkj : k + 1 ≤ j := by decide) (hg : Gl X x := by rfl) (hdb : (x == ("__debug__" : Str)) = false := by decide) : ME X W (.Call (.Name x p) [] [] pos) (mNew x mi mNil) := by
  refine ⟨⟨fun pins s σ H Q I ⟨β, S, ρ, rl, en, p⟩ => wpAny_Call_Name_kw (ld_glob I hg hm ?_ hdb)⟩⟩
  have q : Po X.K X.mg W σ β H (newD x mi [] S) _ := p
  exact PySem.W.callWith_K0 I.kIn M.kp (new_run (us := []) M F (hr.mono hkj) hb (passAt tk σ) I .nil (new_sp hm cl rfl rl .nil q))
/-! ### o.m(..) -/
abbrev MTab := List (Str × (List D → Sto → R D))
/-- the class's own method, or the one that it inherits -/
def disp (tab : MTab) (m : Str) (o : D) (S : Sto) : Option (List D → Sto → R D) := match o with
  | .ref n => match S[n]? with
    | some (.ins C fs) => if (fs.lookup m).isNone then tab.lookup C else none
    | _ => none
  | _ => none
def mMeth (tab : MTab) (m : Str) (mo : Mx) (ma : Ma) : Mx := fun ρ S => (mo ρ S).bind fun o S1 => match disp tab m o S1 with
  | some g => (ma ρ S1).bind fun ds S2 => g (o :: ds) S2
  | none => .stuck
/-- each class of the table has the method m, and it does what the table says -/
structure TabOk (X : Cx) (j n : Nat) (m : Str) (tab : MTab) : Prop where
  has : ∀ C g, tab.lookup C = some g → ∀ Ca, X.mg C = some (.ref Ca) → ∃ (k : Nat) (fa : Addr) (fd : FuncData) (ps : List Str), Meth X.K Ca m fa ∧ FnOk X.prog X.w X.K X.mg X.base (L2.CX X.prog X.w) k fa fd ps (spM X.K X.mg n g) ∧ k ≤ j ∧ Binds X.K fd ps []
theorem tab_nil {j n : Nat} {m : Str} : TabOk X j n m [] := ⟨fun _ _ h => by cases h⟩
theorem tab_cons {j n k : Nat} {m C : Str} {Ca fa : Addr} {fd : FuncData} {ps : List Str} {g : List D → Sto → R D} {tab : MTab} (hm : X.mg C = some (.ref Ca)) (me : Meth X.K Ca m fa) (F : FnOk X.prog X.w X.K X.mg X.base (L2.CX X.prog X.w) k fa fd ps (spM X.K X.mg n g)) (b : Binds X.K fd ps []) (t : TabOk X j n m tab) (hkj : k ≤ j := by decide) : TabOk X j n m ((C, g) :: tab) := by
  refine ⟨fun C' g' h Ca' hm' => ?_⟩
  rw [List.lookup_cons] at h
  cases q : C' == C with
  | true =>
    rw [q] at h
    cases h
    have e : C' = C := eq_of_beq q
    rw [e, hm] at hm'
    cases hm'
    exact ⟨k, fa, fd, ps, me, F, hkj, b⟩
  | false => rw [q] at h; exact t.has C' g' h Ca' hm'
theorem disp_ok {tab : MTab} {j n : Nat} {mn : Str} {β : List Addr} {H : Hp} {S : Sto} {od : D} {v : V} {g : List D → Sto → R D} (t : TabOk X j n mn tab) (r : Rl X.K X.mg β H S) (hv : Vd X.K X.mg β H v od) (e : disp tab mn od S = some g) :
    ∃ (a Ca dx : Addr) (xs : List (Str × V)) (k : Nat) (fa : Addr) (fd : FuncData) (ps : List Str), v = .ref a ∧ H a = some (.ins Ca dx xs) ∧ Cls X.K Ca ∧ xs.lookup mn = none ∧ Meth X.K Ca mn fa ∧ FnOk X.prog X.w X.K X.mg X.base (L2.CX X.prog X.w) k fa fd ps (spM X.K X.mg n g) ∧ k ≤ j ∧ Binds X.K fd ps [] := by
  unfold disp at e
  cases od with
  | ref i =>
    obtain ⟨a, rfl, h1⟩ := hv.ref_inv
    dsimp only at e
    cases e1 : S[i]? with
    | none => rw [e1] at e; cases e
    | some ob =>
      rw [e1] at e
      cases ob with
      | ins C fs =>
        dsimp only at e
        split at e
        · rename_i hn
          obtain ⟨Ca, dx, xs, g1, g2, g3, g4, g5⟩ := ins_of r h1 e1
          obtain ⟨k, fa, fd, ps, t1, t2, t3, t4⟩ := t.has C g e Ca g1
          exact ⟨a, Ca, dx, xs, k, fa, fd, ps, rfl, g2, g4, g3.look0 (Option.isNone_iff_eq_none.mp hn), t1, t2, t3, t4⟩
        · cases e
      | _ => cases e
  | _ => cases e
theorem me_meth {pl : Sem Bool} {tab : MTab} {j n : Nat} {mn : Str} (t : TabOk X j n mn tab) (hr : Room j X.A) (ho : ME X W o mo) (tk : Takes X W) (ha : MA X W (e :: es) ma) (hl : ∀ β H vs ds ρ S S', Vds X.K X.mg β H vs ds → ma ρ S = .ok ds S' → vs.length + 1 = n)
    (he : starEach (e :: es) X.env = (false, eval e X.env) :: starEach es X.env := by rfl) (hpl : (backTo pos (starEach es X.env)).any (·.1) = false := by rfl)
    (ht : eval (.Call (.Attribute o mn apos) (e :: es) [] pos) X.env = ((eval o X.env).bind fun ov => (standAt apos.atName).bind fun _ => (holding [ov] (getMethod ov mn pl)).bind fun q => callWith pos q.1 q.2 (backTo pos (starEach (e :: es) X.env)) (backToKw pos (keywordEach [] X.env))) := by rfl) :
    ME X W (.Call (.Attribute o mn apos) (e :: es) [] pos) (mMeth tab mn mo ma) := by
  refine ⟨⟨fun pins s σ H Q I ⟨β, S, ρ, rl, en, p⟩ => ?_⟩⟩
  have q := (show Po X.K X.mg W σ β H ((mo ρ S).bind fun o S1 => match disp tab mn o S1 with
    | some g => (ma ρ S1).bind fun ds S2 => g (o :: ds) S2
    | none => .stuck) _ from p).bind
  have step : tM X.K X.mg W mo σ H fun x H1 => ∃ β1 S1 od g, Rl X.K X.mg β1 H1 S1 ∧ En X.K X.mg β1 H1 ρ σ ∧ Vd X.K X.mg β1 H1 x od ∧ disp tab mn od S1 = some g ∧ Po X.K X.mg W σ β1 H1 ((ma ρ S1).bind fun ds S2 => g (od :: ds) S2) fun d β' _ H' => ∀ v, Vd X.K X.mg β' H' v d → Q v H' := by
    refine ⟨β, S, ρ, rl, en, q.mono fun od β1 S1 H1 x1 r1 q1 v hv => ?_⟩
    cases e1 : disp tab mn od S1 with
    | none => rw [e1] at q1; exact q1.elim
    | some g => rw [e1] at q1; exact ⟨β1, S1, od, g, r1, en.ext x1, hv, e1, q1⟩
  refine PySem.W.methodCall_KW (pl := pl) (thn (ho.pe.run pins s σ H _ I step) fun u s1 ⟨x, H1, I1, rx, β1, S1, od, g, r1, en1, hv, e1, q1⟩ => ?_) ht
  obtain ⟨a, Ca, dx, xs, k, fa, fd, ps, ex, ea, cl, l0, me, F, hkj, hb⟩ := disp_ok t r1 hv e1
  subst ex
  obtain rfl : u = Value.ref a := rx
  refine getmeth_ok I1 ea cl me l0 ?_
  have q2 := q1.bind
  have step2 : tMA X.K X.mg W ma σ H1 fun vs H2 => spM X.K X.mg n g (.ref a :: vs) H2 Q (WE W σ) := by
    refine ⟨β1, S1, ρ, r1, en1, ?_⟩
    cases e2 : ma ρ S1 with
    | ok ds S2 =>
      rw [e2] at q2
      exact fun β2 H2 x2 r2 vs hvs => call_sp (X := X) (by rw [List.length_cons]; exact hl β2 H2 vs ds ρ S1 S2 hvs e2) r2 (.cons (hv.ext x2) hvs) (q2 β2 H2 x2 r2)
    | ex z S2 => rw [e2] at q2; exact q2
    | stuck => rw [e2] at q2; exact q2
  exact PySem.W.callWith_K (first := [.ref a]) (h₀ := X.base) I.ok.mod.kin me.kp (thn (ha.pa.run pos pins s1 σ H1 _ I1 step2) fun us s2 ⟨vs, H2, I2, r, h2⟩ => ⟨I2.kIn, run_fnS (E := WE W) (us := .ref a :: us) (vs := .ref a :: vs) F (hr.mono hkj) hb (passAt tk σ) I2 (.cons rfl r) h2⟩) he hpl
theorem me_meth0 {pl : Sem Bool} {tab : MTab} {j : Nat} {mn : Str} (t : TabOk X j 1 mn tab) (hr : Room j X.A) (ho : ME X W o mo) (tk : Takes X W)
    (ht : eval (.Call (.Attribute o mn apos) [] [] pos) X.env = ((eval o X.env).bind fun ov => (standAt apos.atName).bind fun _ => (holding [ov] (getMethod ov mn pl)).bind fun q => callWith pos q.1 q.2 (backTo pos (starEach [] X.env)) (backToKw pos (keywordEach [] X.env))) := by rfl) :
    ME X W (.Call (.Attribute o mn apos) [] [] pos) (mMeth tab mn mo mNil) := by
  refine ⟨⟨fun pins s σ H Q I ⟨β, S, ρ, rl, en, p⟩ => ?_⟩⟩
  have q := (show Po X.K X.mg W σ β H ((mo ρ S).bind fun o S1 => match disp tab mn o S1 with
    | some g => g [o] S1
    | none => .stuck) _ from p).bind
  have step : tM X.K X.mg W mo σ H fun x H1 => ∃ β1 S1 od g, Rl X.K X.mg β1 H1 S1 ∧ Vd X.K X.mg β1 H1 x od ∧ disp tab mn od S1 = some g ∧ Po X.K X.mg W σ β1 H1 (g [od] S1) fun d β' _ H' => ∀ v, Vd X.K X.mg β' H' v d → Q v H' := by
    refine ⟨β, S, ρ, rl, en, q.mono fun od β1 S1 H1 x1 r1 q1 v hv => ?_⟩
    cases e1 : disp tab mn od S1 with
    | none => rw [e1] at q1; exact q1.elim
    | some g => rw [e1] at q1; exact ⟨β1, S1, od, g, r1, hv, e1, q1⟩
  refine PySem.W.methodCall_KW (pl := pl) (thn (ho.pe.run pins s σ H _ I step) fun u s1 ⟨x, H1, I1, rx, β1, S1, od, g, r1, hv, e1, q1⟩ => ?_) ht
  obtain ⟨a, Ca, dx, xs, k, fa, fd, ps, ex, ea, cl, l0, me, F, hkj, hb⟩ := disp_ok t r1 hv e1
  subst ex
  obtain rfl : u = Value.ref a := rx
  refine getmeth_ok I1 ea cl me l0 ?_
  exact PySem.W.callWith_K0 (first := [.ref a]) I1.kIn me.kp (run_fnS (E := WE W) (us := [.ref a]) (vs := [.ref a]) F (hr.mono hkj) hb (passAt tk σ) I1 (.cons rfl .nil) (call_sp (X := X) rfl r1 (.cons hv .nil) q1))
end
end Eng
namespace Eng
open PySem PySem.Spec PyProof.Rows L2
variable [TabCfg]
section
variable {K : PySem.W.Frag} {mg : Str → Option Value} {f C : Str} {cs : List Str} {Ca : Addr}
theorem fld_nil : FldC K mg [] f := ⟨fun _ h => by cases h⟩
theorem fld_cons (hm : mg C = some (.ref Ca)) (n : PySem.W.findIn K (.ref Ca) f = some none) (r : FldC K mg cs f) : FldC K mg (C :: cs) f := ⟨fun C' h Ca' hm' => by
  rcases List.mem_cons.mp h with h | h
  · rw [h, hm] at hm'
    cases hm'
    exact n
  · exact r.no C' h Ca' hm'⟩
end
/-- the j-th statement of a class's body -/
def clsS (s : Stmt) (j : Nat) : Stmt := match s with
  | .ClassDef _ _ _ b _ _ _ _ _ _ _ => b.getD j (.Pass ⟨0, 0, 0, 0⟩)
  | s => s
end Eng
namespace Eng
open PySem PySem.Spec PyProof.Rows L2
variable [TabCfg]
theorem len_more {X : Cx} {ma : Ma} {n : Nat} (h : ∀ β H vs ds ρ S S', Vds X.K X.mg β H vs ds → ma ρ S = .ok ds S' → vs.length = n) : ∀ β H vs ds ρ S S', Vds X.K X.mg β H vs ds → ma ρ S = .ok ds S' → vs.length + 1 = n + 1 := fun β H vs ds ρ S S' a b => by rw [h β H vs ds ρ S S' a b]
end Eng

/-! The engine, part 18: rows for simp about classes; texts that are written. -/
namespace Eng
open PySem PySem.Spec PyProof.Rows L2
variable [TabCfg]
theorem ofString_inj {a b : String} (h : Str.ofString a = Str.ofString b) : a = b := by
  rw [Str.ofString_eq_toList, Str.ofString_eq_toList] at h
  have e : a.toList.map Char.toNat = b.toList.map Char.toNat := by
    have := congrArg (fun z : Str => z.cps.toList) h
    simpa using this
  have inj : Function.Injective Char.toNat := fun x y e => Char.toNat_inj.mp e
  exact String.toList_inj.mp ((List.map_inj_right (fun x y e => inj e)).mp e)
@[simp] theorem lit_eq {a b : String} : (Str.ofString a = Str.ofString b) ↔ a = b := ⟨ofString_inj, fun h => by rw [h]⟩
@[simp] theorem lit_beq {a b : String} : (Str.ofString a == Str.ofString b) = (a == b) := by
  rw [Bool.eq_iff_iff, beq_iff_eq, beq_iff_eq]
  exact lit_eq
section
variable {ρ : Env'} {S : Sto} {m mo mv : Mx} {ma : Ma} {f C : Str} {cs : List Str} {n : Nat} {d : D} {ds : List D} {mi : List D → Sto → R D} {tab : MTab}
@[simp] theorem ev_fld : mFld m f ρ S = (m ρ S).bind (fldD f) := rfl
@[simp] theorem fldD_ref : fldD f (.ref n) S = match S[n]? with
    | some (.ins _ fs) => match fs.lookup f with
      | some v => .ok v S
      | none => .stuck
    | _ => .stuck := rfl
@[simp] theorem ev_sfld : sFld cs mo f mv ρ S = (mv ρ S).st ρ fun d S1 => (mo ρ S1).st ρ fun o S2 => match setFld cs f o d S2 with
  | some S3 => .fl (.nx ρ) S3
  | none => .stuck := rfl
@[simp] theorem setFld_ref : setFld cs f (.ref n) d S = match S[n]? with
    | some (.ins C fs) => if C ∈ cs ∧ fs.length < 1000 then some (S.set n (.ins C (putO f d fs))) else none
    | _ => none := rfl
@[simp] theorem putO_nil : putO f d [] = [(f, d)] := rfl
@[simp] theorem putO_cons {g : Str} {x : D} {r : List (Str × D)} : putO f d ((g, x) :: r) = if g = f then (g, d) :: r else (g, x) :: putO f d r := rfl
@[simp] theorem ev_new : mNew C mi ma ρ S = (ma ρ S).bind (newD C mi) := rfl
@[simp] theorem newD_ev : newD C mi ds S = (mi (.ref S.length :: ds) (S ++ [.ins C []])).bind fun d S2 => match d with
  | .non => .ok (.ref S.length) S2
  | _ => .stuck := rfl
@[simp] theorem ev_meth : mMeth tab f mo ma ρ S = (mo ρ S).bind fun o S1 => match disp tab f o S1 with
  | some g => (ma ρ S1).bind fun ds S2 => g (o :: ds) S2
  | none => .stuck := rfl
@[simp] theorem disp_ref : disp tab f (.ref n) S = match S[n]? with
    | some (.ins C fs) => if (fs.lookup f).isNone then tab.lookup C else none
    | _ => none := rfl
end
end Eng

/-! The engine, part 19: tuples of whole numbers and texts as keys and in lists. -/
namespace Eng
open PySem PySem.Spec PyProof.Rows L2
variable [TabCfg]
def keyP : D → Key
  | .int i => .inl i
  | .str z => .inr z
  | _ => .inl 0
theorem keysD_pts : ∀ xs : List D, (∀ d ∈ xs, isPt d = true) → keysD xs = some (xs.map keyP)
  | [], _ => rfl
  | d :: r, h => by
    have h1 := h d (List.mem_cons_self ..)
    unfold keysD
    rw [keysD_pts r fun x hx => h x (List.mem_cons_of_mem _ hx)]
    cases d with
    | int i => rfl
    | str z => rfl
    | _ => cases h1
theorem keyP_inj {d e : D} (h : isPt d = true) (h2 : isPt e = true) (k : keyP d = keyP e) : d = e := by
  cases d <;> first | (cases h; done) | skip
  all_goals cases e <;> first | (cases h2; done) | skip
  all_goals simp [keyP] at k
  all_goals rw [k]
theorem keysP_inj : ∀ {xs ys : List D}, (∀ d ∈ xs, isPt d = true) → (∀ d ∈ ys, isPt d = true) → xs.map keyP = ys.map keyP → xs = ys
  | [], [], _, _, _ => rfl
  | [], y :: ys, _, _, e => by cases e
  | x :: xs, [], _, _, e => by cases e
  | x :: xs, y :: ys, h1, h2, e => by
    rw [List.map_cons, List.map_cons] at e
    injection e with e1 e2
    rw [keyP_inj (h1 x (List.mem_cons_self ..)) (h2 y (List.mem_cons_self ..)) e1, keysP_inj (fun d hd => h1 d (List.mem_cons_of_mem _ hd)) (fun d hd => h2 d (List.mem_cons_of_mem _ hd)) e2]
section
variable {κ : Type} [DecidableEq κ]
theorem valD_nil (k : κ) : valD [] k = none := rfl
theorem valD_cons (k k' : κ) (d : D) (r : List (κ × D)) : valD ((k, d) :: r) k' = if k = k' then some d else valD r k' := by
  unfold valD
  rw [List.find?_cons]
  by_cases h : k = k'
  · rw [decide_eq_true h, if_pos h]
    rfl
  · rw [decide_eq_false h, if_neg h]
theorem valD_app (k' : κ) (d : D) (k : κ) : ∀ r : List (κ × D), valD (r ++ [(k, d)]) k' = (valD r k').or (if k = k' then some d else none)
  | [] => by rw [List.nil_append, valD_cons]; rfl
  | (j, v) :: r => by
    rw [List.cons_append, valD_cons, valD_cons, valD_app k' d k r]
    split <;> rfl
theorem valD_any (k : κ) : ∀ r : List (κ × D), (r.any fun kv => decide (kv.1 = k)) = (valD r k).isSome
  | [] => rfl
  | (j, v) :: r => by
    rw [List.any_cons, valD_cons, valD_any k r]
    by_cases h : j = k
    · rw [decide_eq_true h, if_pos h]; rfl
    · rw [decide_eq_false h, if_neg h, Bool.false_or]
theorem valD_map (k k' : κ) (d : D) : ∀ r : List (κ × D), valD (r.map fun kv => if kv.1 = k then (kv.1, d) else kv) k' = if k' = k then (valD r k').map fun _ => d else valD r k'
  | [] => by rw [List.map_nil, valD_nil]; split <;> rfl
  | (j, v) :: r => by
    rw [List.map_cons]
    by_cases hj : j = k
    · rw [if_pos hj, valD_cons, valD_cons, valD_map k k' d r]
      by_cases h : j = k'
      · rw [if_pos h, if_pos h, if_pos (by rw [← h, hj])]; rfl
      · rw [if_neg h, if_neg h]
    · rw [if_neg hj, valD_cons, valD_cons, valD_map k k' d r]
      by_cases h : j = k'
      · rw [if_pos h, if_pos h, if_neg (by rw [← h]; exact hj)]
      · rw [if_neg h, if_neg h]
theorem valD_put (r : List (κ × D)) (k k' : κ) (d : D) : valD (putD r k d) k' = if k' = k then some d else valD r k' := by
  unfold putD
  rw [valD_any]
  cases q : valD r k with
  | some v =>
    rw [Option.isSome_some, if_pos rfl, valD_map]
    by_cases h : k' = k
    · rw [if_pos h, if_pos h, h, q]; rfl
    · rw [if_neg h, if_neg h]
  | none =>
    rw [Option.isSome_none, if_neg (by decide), valD_app]
    by_cases h : k' = k
    · rw [if_pos h, h, q, if_pos rfl]
      rfl
    · rw [if_neg h, if_neg (show ¬ k = k' from fun e => h e.symm), Option.or_none]
theorem putD_len (r : List (κ × D)) (k : κ) (d : D) : (putD r k d).length = if (valD r k).isSome = true then r.length else r.length + 1 := by
  unfold putD
  rw [valD_any]
  split
  · rw [List.length_map]
  · rw [List.length_append, List.length_singleton]
theorem putD_le (r : List (κ × D)) (k : κ) (d : D) : (putD r k d).length ≤ r.length + 1 := by
  rw [putD_len]
  split <;> omega
end
/-! tuples in a list -/
theorem toPy_tup {S : Sto} {n : Nat} {xs : List D} (h : ∀ d ∈ xs, isPt d = true) : toPy S (n + 1) (.tup xs) = some (.tuple (xs.map ptPy)) := by
  unfold toPy
  rw [toPys_pts xs h]
  rfl
theorem toPys_tups {S : Sto} {n : Nat} : ∀ ts : List (List D), (∀ t ∈ ts, ∀ d ∈ t, isPt d = true) → toPys S (n + 1) (ts.map D.tup) = some (ts.map fun t => .tuple (t.map ptPy))
  | [], _ => by rw [List.map_nil, toPys]; rfl
  | t :: r, h => by
    rw [List.map_cons, toPys, toPys_tups r fun x hx => h x (List.mem_cons_of_mem _ hx), toPy_tup (h t (List.mem_cons_self ..))]
    rfl
theorem canLay_tups : ∀ ts : List (List D), (∀ t ∈ ts, ∀ d ∈ t, okPt d = true) → PyData.canLayAll0 (ts.map fun t => .tuple (t.map ptPy)) = true
  | [], _ => by simp [PyData.canLayAll0]
  | t :: r, h => by
    rw [List.map_cons, PyData.canLayAll0, canLay_tups r fun x hx => h x (List.mem_cons_of_mem _ hx), PyData.canLay0, canLay_pts t (h t (List.mem_cons_self ..))]
    rfl
theorem depth_tups : ∀ ts : List (List D), PyData.depthAll (ts.map fun t => .tuple (t.map ptPy)) ≤ 1
  | [] => by simp [PyData.depthAll]
  | t :: r => by
    have := depth_tups r
    rw [List.map_cons, PyData.depthAll, PyData.depth, depth_pts]
    omega
theorem shaped_tup {xs : List D} (h : ∀ d ∈ xs, okPt d = true) : SeqAt.shaped (.tuple (xs.map ptPy)) = true := by
  unfold SeqAt.shaped
  rw [PyData.canLay0, canLay_pts xs h, PyData.depth, depth_pts]
  rfl
theorem shaped_tups {ts : List (List D)} (h : ∀ t ∈ ts, ∀ d ∈ t, okPt d = true) : SeqAt.shaped (.list (ts.map fun t => .tuple (t.map ptPy))) = true := by
  unfold SeqAt.shaped
  have := depth_tups ts
  rw [PyData.canLay0, canLay_tups ts h, PyData.depth, Bool.true_and]
  exact decide_eq_true (by omega)
theorem eqv_tup {xs ys : List D} (h1 : ∀ d ∈ xs, isPt d = true) (h2 : ∀ d ∈ ys, isPt d = true) : PyData.eqv (.tuple (xs.map ptPy)) (.tuple (ys.map ptPy)) = true ↔ xs = ys := by
  rw [PyData.eqv]
  exact eqvAll_pts xs ys h1 h2
theorem inD_tups {S : Sto} {n : Nat} {xs : List D} {ts : List (List D)} (hl : lstAt S n = some (ts.map D.tup)) (h1 : ∀ d ∈ xs, isPt d = true) (h2 : ∀ t ∈ ts, ∀ d ∈ t, isPt d = true) (k1 : ∀ d ∈ xs, okPt d = true) (k2 : ∀ t ∈ ts, ∀ d ∈ t, okPt d = true) : ∃ b, inD (.tup xs) (.ref n) S = some b ∧ (b = true ↔ xs ∈ ts) := by
  have e2 : toPy S 64 (.ref n) = some (.list (ts.map fun t => .tuple (t.map ptPy))) := by
    rw [toPy, hl]
    dsimp only
    rw [toPys_tups ts h2]
    rfl
  refine ⟨(ts.map fun t => PyData.tuple (t.map ptPy)).any fun z => PyData.eqv z (.tuple (xs.map ptPy)), ?_, ?_⟩
  · unfold inD
    dsimp only
    rw [hl]
    dsimp only
    have e1 : inSeq S (.tup xs) (ts.map D.tup) = none := by
      unfold inSeq flatD
      rfl
    rw [e1]
    dsimp only
    unfold inDeep
    rw [e2, toPy_tup h1]
    dsimp only
    rw [shaped_tup k1, shaped_tups k2]
    rfl
  · rw [List.any_map, List.any_eq_true]
    constructor
    · rintro ⟨t, ht, e⟩
      have := (eqv_tup (h2 t ht) h1).mp e
      rw [← this]
      exact ht
    · intro h
      exact ⟨xs, h, (eqv_tup h1 h1).mpr rfl⟩
end Eng

set_option maxHeartbeats 2000000
/-! The engine, part 20: what a nested def or a lambda promises. -/
namespace Eng
open PySem PySem.Spec PyProof.Rows L2
variable [TabCfg]
/-- the same words, as the library has them -/
abbrev NW.nf (W : NW) (b : List Stmt) (cl : List (Str × Addr)) (c : Addr) : NdefX.NF := ⟨W.name, W.qual, W.params, b, W.scope, cl, c⟩
/-- the promise of a function with the words W: sp ws, ws what its cells hold -/
structure NQ (P : Program) (w : World) (K : PySem.W.Frag) (mg : Str → Option Value) (base : Heap) (k : Nat) (W : NW) (np : Nat) (m : List D → Sto → R D) : Prop where
  run : ∀ (f : Addr) (cl : List (Str × Addr)) (c : Addr) (A : Around) (outer : List Env) (s : Shared) (H : Hp) (us : List Value) (vs ws : List V) (Q : VK) (E : XK), Room k A → Env0 P w K mg base A outer s H → H f = some (FnQ f W cl c) → H c = some (LamX.CodeO c W.qual) →
    NdefX.CellsAt cl W.fr (ws.map some) s.heap H → Vals vs us → vs.length = np → spM K mg (np + W.fr.length) m (vs ++ ws) H Q E → codeAny (model P w) A (.call (.ref f) ⟨us, []⟩) (CR (L2.CX P w) outer P w H s Q E) s
theorem fnq_stmts {W : NW} {b : List Stmt} (h : W.body = .stmts b) (f : Addr) (cl : List (Str × Addr)) (c : Addr) : FnQ f W cl c = NdefX.FnO f (W.nf b cl c) := by
  unfold FnQ NdefX.FnO NW.fd NdefX.NF.fd
  rw [h]
theorem fnq_at {P : Program} {w : World} {H : Hp} {h : Heap} {f : Addr} {W : NW} {cl : List (Str × Addr)} {c : Addr} (hok : HOk P w H h) (e : H f = some (FnQ f W cl c)) : ∃ (od : Option Addr) (sl : Array (Option Value)) (doc pm ctv : Value), h.get? f = some (⟨.type "function", od, .func (W.fd cl c doc pm ctv), sl⟩ : Obj) := by
  obtain ⟨z, _, _⟩ := hok f _ e
  exact z
section
variable {P : Program} {w : World} {K : PySem.W.Frag} {mg : Str → Option Value} {base : Heap} {k j : Nat} {W : NW} {N ps : List Str}
theorem NQ.mono {np : Nat} {m : List D → Sto → R D} (o : NQ P w K mg base j W np m) (h : j ≤ k) : NQ P w K mg base k W np m := ⟨fun f cl c A outer s H us vs ws Q E hr => o.run f cl c A outer s H us vs ws Q E (hr.mono h)⟩
theorem startF_eq {N : List Str} {vs ws : List V} : NdefX.startF N vs (ws.map some) = L2.start N (vs ++ ws) := by
  unfold NdefX.startF L2.start
  rw [List.length_map, List.map_append, List.append_assoc, List.length_append, Nat.sub_sub]
/-- a nested def by its body -/
theorem nq_def {b : List Stmt} {mb : Ms} (hW : W.body = .stmts b) (S : NdefX.NScope N ps W.fr W.scope)
    (hb : ∀ (cl : List (Str × Addr)) (c : Addr) (doc pm ctv : Value) (us : List Value), us.length = ps.length → bindArgs ((W.nf b cl c).fd doc pm ctv) ⟨us, []⟩ = pure (ps.zip us))
    (h : ∀ (f : Addr) (cl : List (Str × Addr)) (c : Addr) (A : Around) (outer : List Env) (s : Shared) (H : Hp) (E : XK), Room k (A.deeper (NdefX.envF (W.nf b cl c) f s.heap.objs.size)) →
      MSs (NdefX.ncx (L2.CX P w) P w K mg base N (W.nf b cl c) f A outer s H E) (fun cls d _ H => E cls d H) b mb) : NQ P w K mg base (k + 1) W ps.length (mDef N.length mb) := by
  refine ⟨fun f cl c A outer s H us vs ws Q E hr e0 hf hc C r hl hsp => ?_⟩
  have n := NdefX.nok_of (CX := L2.CX P w) (P := P) (w := w) (K := K) (mg := mg) (base := base) (k := k) (N := N) (ps := ps) (fr := W.fr) (F := W.nf b cl c) (f := f)
    (sp := fun os us H' Q' E' => us = vs ∧ os = ws.map some ∧ spM K mg (ps.length + W.fr.length) (mDef N.length mb) (vs ++ ws) H' Q' E') S (hb cl c) (fun os us H' Q' E' z => by rw [z.1]; exact hl)
    fun A' outer' s' H' vs' ws' Q' E' hr' _ _ _ ⟨z1, z2, z3⟩ => by
      obtain ⟨hn, β, S', ds, rl, hv, q⟩ := z3
      refine ⟨_, (h f cl c A' outer' s' H' E' hr').ps, β, S', ds.map some ++ List.replicate (N.length - ds.length) none, rl, ?_, ?_⟩
      · rw [z1, z2, startF_eq]
        exact en_start hv
      · unfold mDef at q
        show PoS K mg _ β H' (mb (ds.map some ++ List.replicate (N.length - ds.length) none) S') _
        cases e : mb (ds.map some ++ List.replicate (N.length - ds.length) none) S' with
        | fl g S2 =>
          rw [e] at q
          cases g with
          | nx ρ => exact fun β' H2 σ' x r _ => q β' H2 .non x r .non
          | rt d => exact fun β' H2 v x r hv => q β' H2 v x r hv
        | ex x ρ S2 => rw [e] at q; exact fun cls od β' H2 σ' y r _ hx => q cls od β' H2 y r hx
        | stuck => rw [e] at q; exact q
  exact n.run A outer s H us vs (ws.map some) Q E hr e0 (by rw [← fnq_stmts hW]; exact hf) hc C r ⟨rfl, rfl, hsp⟩
/-- a lambda by its body -/
theorem nq_lam {e : Expr} {m : Mx} (hW : W.body = .expr e) (S : NdefX.NScope N ps W.fr W.scope)
    (hb : ∀ (cl : List (Str × Addr)) (c : Addr) (doc pm ctv : Value) (us : List Value), us.length = ps.length → bindArgs (W.fd cl c doc pm ctv) ⟨us, []⟩ = pure (ps.zip us))
    (h : ∀ (f : Addr) (cl : List (Str × Addr)) (c : Addr) (A : Around) (outer : List Env) (s : Shared) (H : Hp) (E : XK), Room k (A.deeper (NdefX.envF (W.nf [] cl c) f s.heap.objs.size)) →
      ME (NdefX.ncx (L2.CX P w) P w K mg base N (W.nf [] cl c) f A outer s H E) (fun cls d _ H => E cls d H) e m) : NQ P w K mg base (k + 1) W ps.length (mDef N.length (sRet m)) := by
  refine ⟨fun f cl c A outer s H us vs ws Q E hr e0 hf hc C r hl hsp => ?_⟩
  have lim : s.heap.NoLimit := e0.mod.nolimit.keeps fun b o e => (e0.bs b o e).1
  obtain ⟨od, sl, doc, pm, ctv, ho⟩ := fnq_at e0.hok hf
  refine PySem.W.kla_callFunE hr.depth ho rfl S.co S.gen hW (NdefX.codeO_at e0.hok hc) ?_
  rw [hb cl c doc pm ctv us (by rw [← r.length]; exact hl)]
  refine wpAny_pure (wpAny_newFunctionEnv S.nocell (fun ⟨n, _⟩ hy => S.par n (List.of_mem_zip hy).1) (fun h₁ hns hsb => ⟨lim.fresh _ hsb, ?_⟩) S.kind)
  show codeAny _ _ (.expr e (NdefX.envF (W.nf [] cl c) f s.heap.objs.size)) _ _
  have kp : ∀ b o, s.heap.get? b = some o → h₁.get? b = some o := fun b o e => hsb.extBut b o (Nat.ne_of_lt (Heap.lt_size e)) (Heap.get?_push_of_some _ e)
  have I : Inv (NdefX.ncx (L2.CX P w) P w K mg base N (W.nf [] cl c) f A outer s H E) [] (NdefX.startF N vs (ws.map some)) H { s with heap := h₁, toks := s.toks + (ps.zip us).length } := NdefX.inv_startN S hr.hd e0 hl r C hns kp
  obtain ⟨hn, β, S', ds, rl, hv, q⟩ := hsp
  have pe := (h f cl c A outer s H E (hr.deeper _)).pe
  have t : tM K mg (fun cls d _ H => E cls d H) m (NdefX.startF N vs (ws.map some)) H Q := by
    refine ⟨β, S', ds.map some ++ List.replicate (N.length - ds.length) none, rl, by rw [startF_eq]; exact en_start hv, ?_⟩
    unfold mDef sRet at q
    cases e : m (ds.map some ++ List.replicate (N.length - ds.length) none) S' with
    | ok d S2 => rw [e] at q; exact fun β' H2 x r v hv => q β' H2 v x r hv
    | ex x S2 => rw [e] at q; exact fun cls od β' H2 y r hx => q cls od β' H2 y r hx
    | stuck => rw [e] at q; exact q
  refine PySem.W.kla_codeExpr (wpAny_mono (pe.run [] _ _ H Q I t) (fun v s' hq => ?_) fun e' s' hq => hq)
  obtain ⟨w', H', J', rv, q'⟩ := hq
  exact ⟨w', H', J'.os, J'.bare, J'.base, J'.hok, rv, q'⟩
end
end Eng

set_option maxHeartbeats 2000000
/-! The engine, part 21: a call of a function that lies in the store. -/
namespace Eng
open PySem PySem.Spec PyProof.Rows L2
/-! ### cells opened and closed, in the store -/
def celsD (S : Sto) : List Nat → Option (List D)
  | [] => some []
  | n :: r => match S[n]?, celsD S r with
    | some (.cel d), some ds => some (d :: ds)
    | _, _ => none
def openD (S : Sto) : List Nat → Sto
  | [] => S
  | n :: r => openD (S.set n .opn) r
/-- as they were in S -/
def closeC (S : Sto) (S' : Sto) : List Nat → Sto
  | [] => S'
  | n :: r => closeC S (match S[n]? with
    | some o => S'.set n o
    | none => S') r
theorem openD_len : ∀ (ns : List Nat) (S : Sto), (openD S ns).length = S.length
  | [], _ => rfl
  | n :: r, S => by rw [openD, openD_len r, List.length_set]
theorem openD_get : ∀ (ns : List Nat) (S : Sto) (m : Nat), (openD S ns)[m]? = if m ∈ ns then (S[m]?).map fun _ => .opn else S[m]?
  | [], _, _ => by simp [openD]
  | n :: r, S, m => by
    rw [openD, openD_get r]
    by_cases h : m = n
    · subst h
      by_cases hl : m < S.length
      · rw [List.getElem?_set_self hl, List.getElem?_eq_getElem hl]
        simp
      · rw [List.getElem?_eq_none (by rw [List.length_set]; omega), List.getElem?_eq_none (by omega)]
        simp
    · rw [List.getElem?_set_ne (fun e => h e.symm)]
      simp [h]
theorem closeC_len : ∀ (ns : List Nat) (S S' : Sto), (closeC S S' ns).length = S'.length
  | [], _, _ => rfl
  | n :: r, S, S' => by
    rw [closeC, closeC_len r]
    cases S[n]? with
    | none => rfl
    | some o => exact List.length_set ..
theorem closeC_out : ∀ (ns : List Nat) (S S' : Sto) (m : Nat), m ∉ ns → (closeC S S' ns)[m]? = S'[m]?
  | [], _, _, _, _ => rfl
  | n :: r, S, S', m, h => by
    rw [closeC, closeC_out r _ _ m (fun z => h (List.mem_cons_of_mem _ z))]
    have : n ≠ m := fun z => h (by rw [z]; exact List.mem_cons_self ..)
    cases S[n]? with
    | none => rfl
    | some o => exact List.getElem?_set_ne this
theorem closeC_in (S : Sto) (m : Nat) (o u : Ob) (e : S[m]? = some o) : ∀ (ns : List Nat) (S' : Sto), m ∈ ns → (closeC S S' ns)[m]? = some u → u = o := by
  intro ns
  induction ns with
  | nil => intro S' h; cases h
  | cons n r ih =>
    intro S' h e2
    by_cases hr : m ∈ r
    · exact ih _ hr e2
    · have hm : m = n := (List.mem_cons.mp h).elim id fun z => absurd z hr
      subst hm
      have e3 : closeC S S' (m :: r) = closeC S (S'.set m o) r := by
        rw [closeC, e]
      rw [e3, closeC_out r _ _ m hr] at e2
      by_cases hl : m < S'.length
      · rw [List.getElem?_set_self hl] at e2
        exact (Option.some.inj e2).symm
      · rw [List.getElem?_eq_none (by rw [List.length_set]; omega)] at e2
        cases e2
theorem celsD_mem {S : Sto} : ∀ {ns : List Nat} {ds : List D}, celsD S ns = some ds → ∀ n ∈ ns, ∃ d, S[n]? = some (.cel d)
  | [], _, _, _, h => by cases h
  | n :: r, ds, e, m, h => by
    unfold celsD at e
    cases q : S[n]? with
    | none => rw [q] at e; cases e
    | some o =>
      rw [q] at e
      cases o with
      | cel d =>
        try dsimp only at e
        cases q2 : celsD S r with
        | none => rw [q2] at e; cases e
        | some ds' =>
          rcases List.mem_cons.mp h with h | h
          · exact ⟨d, by rw [h]; exact q⟩
          · exact celsD_mem q2 m h
      | _ => cases e
/-! ### the same in the abstract heap -/
noncomputable def era (cs : List Addr) (H : Hp) : Hp := fun b => if b ∈ cs then none else H b
noncomputable def trk (cs : List Addr) (H H' : Hp) : Hp := fun b => if b ∈ cs then H b else H' b
def CS (cs : List Addr) (H : Hp) : Prop := ∀ c ∈ cs, ∃ v, H c = some (CellO c v)
section
variable {cs : List Addr} {H H' : Hp} {P : Program} {w : World} {h h' : Heap} {b : Addr} {o : HO}
theorem era_out (hb : b ∉ cs) : era cs H b = H b := if_neg hb
theorem era_in (hb : b ∈ cs) : era cs H b = none := if_pos hb
theorem trk_out (hb : b ∉ cs) : trk cs H H' b = H' b := if_neg hb
theorem trk_in (hb : b ∈ cs) : trk cs H H' b = H b := if_pos hb
theorem era_some (e : era cs H b = some o) : b ∉ cs ∧ H b = some o := by
  by_cases hb : b ∈ cs
  · rw [era_in hb] at e; cases e
  · exact ⟨hb, by rw [era_out hb] at e; exact e⟩
theorem CS.out (c : CS cs H) (e : H b = some o) (ho : ∀ φ, o ≠ .ext φ) : b ∉ cs := fun hb => by
  obtain ⟨v, q⟩ := c b hb
  rw [e] at q
  exact ho _ (Option.some.inj q)
theorem CS.outN (c : CS cs H) (e : H b = none) : b ∉ cs := fun hb => by
  obtain ⟨v, q⟩ := c b hb
  rw [e] at q
  cases q
theorem hok_era (ok : HOk P w H h) (c : CS cs H) : HOk P w (era cs H) h := fun a o e => by
  obtain ⟨ha, e⟩ := era_some e
  exact (ok a o e).stay (fun b u _ q => q) (fun b q => by rw [era_out (c.out q fun φ z => by cases z)]; exact q) fun b xs q => by rw [era_out (c.out q fun φ z => by cases z)]; exact q
theorem cell_here (ok : HOk P w H h) {v : V} (e : H b = some (CellO b v)) : ∃ u, RelV v u ∧ h.IsCell b (some u) := by
  obtain ⟨z, _, _⟩ := ok b _ e
  exact z
theorem code_no_cell (ok : HOk P w H h) {q : Str} {v : V} (e1 : H b = some (LamX.CodeO b q)) (e2 : H b = some (CellO b v)) : False := by
  obtain ⟨u, _, o, h1, h2⟩ := cell_here ok e2
  obtain ⟨⟨oc, vs, t, h3, h4, _⟩, _, _⟩ := ok b _ e1
  rw [h1] at h3
  cases h3
  rw [h2] at h4
  cases h4
theorem fn_no_cell (ok : HOk P w H h) {W : NW} {cl : List (Str × Addr)} {cc : Addr} {v : V} (e1 : H b = some (FnQ b W cl cc)) (e2 : H b = some (CellO b v)) : False := by
  obtain ⟨u, _, o, h1, h2⟩ := cell_here ok e2
  obtain ⟨od, sl, doc, pm, ctv, h3⟩ := fnq_at ok e1
  rw [h1] at h3
  cases h3
  cases h2
theorem xt_era {K : PySem.W.Frag} {β : List Addr} (ok : HOk P w H h) (c : CS cs H) : Xt K β H β (era cs H) :=
  ⟨⟨[], by simp⟩, fun a xs q => by rw [era_out (c.out q fun φ z => by cases z)]; exact q, fun a xs q => by rw [era_out (c.out q fun φ z => by cases z)]; exact q,
    fun a z q => by
      rw [era_out (fun hb => by obtain ⟨v, e⟩ := c a hb; exact code_no_cell ok q e)]; exact q,
    fun a W cl cc q => by
      rw [era_out (fun hb => by obtain ⟨v, e⟩ := c a hb; exact fn_no_cell ok q e)]; exact q⟩
theorem xt_trk {K : PySem.W.Frag} {β β' : List Addr} (ok : HOk P w H h) (c : CS cs H) (x : Xt K β (era cs H) β' H') : Xt K β H β' (trk cs H H') := by
  have key : ∀ a o, H a = some o → a ∉ cs → (era cs H a = some o → H' a = some o) → trk cs H H' a = some o := fun a o q ha k => by
    rw [trk_out ha]
    exact k (by rw [era_out ha]; exact q)
  exact ⟨x.pre, fun a xs q => key a _ q (c.out q fun φ z => by cases z) (x.tup a xs), fun a xs q => key a _ q (c.out q fun φ z => by cases z) (x.xd a xs),
    fun a z q => key a _ q (fun hb => by obtain ⟨v, e⟩ := c a hb; exact code_no_cell ok q e) (x.cod a z),
    fun a W cl cc q => key a _ q (fun hb => by obtain ⟨v, e⟩ := c a hb; exact fn_no_cell ok q e) (x.fnq a W cl cc)⟩
/-- what the callee has tracked, the caller's cells beside -/
theorem xt_up {K : PySem.W.Frag} {β : List Addr} (hf : ∀ c ∈ cs, H' c = none) : Xt K β H' β (trk cs H H') := by
  have key : ∀ a o, H' a = some o → trk cs H H' a = some o := fun a o q => by
    rw [trk_out (fun hb => by rw [hf a hb] at q; cases q)]
    exact q
  exact ⟨⟨[], by simp⟩, fun a xs => key a _, fun a xs => key a _, fun a z => key a _, fun a W cl cc => key a _⟩
theorem un_trk {fs : List Addr} (u : Un fs [] (era cs H) H' h h') (c : CS cs H) : Un fs [] H (trk cs H H') h h' where
  keep := fun b o e n => u.keep b o e (by rw [era_out (c.outN n)]; exact n)
  slot := fun b o e n => u.slot b o e (by rw [era_out (c.outN n)]; exact n)
  free := fun b o e n hx => by
    rw [trk_out (c.outN n)]
    exact u.free b o e (by rw [era_out (c.outN n)]; exact n) hx
  there := u.there
  tups := fun b xs e => by
    have hb := c.out e fun φ z => by cases z
    rw [trk_out hb]
    exact u.tups b xs (by rw [era_out hb]; exact e)
  frzs := fun b o xs e => by
    have hb := c.out e fun φ z => by cases z
    rw [trk_out hb]
    exact u.frzs b o xs (by rw [era_out hb]; exact e)
  tbls := fun b ps e => by
    have hb := c.out e fun φ z => by cases z
    obtain ⟨more, q⟩ := u.tbls b ps (by rw [era_out hb]; exact e)
    exact ⟨more, by rw [trk_out hb]; exact q⟩
theorem ub_trk {fs : List Addr} {B : Heap} (u : UB fs (era cs H) H' h B h') (c : CS cs H) : UB fs H (trk cs H H') h B h' where
  keep := fun b o e n => u.keep b o e (by rw [era_out (c.outN n)]; exact n)
  slot := u.slot
  free := fun b o e n => by
    rw [trk_out (c.outN n)]
    exact u.free b o e (by rw [era_out (c.outN n)]; exact n)
  there := u.there
  tups := fun b xs e => by
    have hb := c.out e fun φ z => by cases z
    rw [trk_out hb]
    exact u.tups b xs (by rw [era_out hb]; exact e)
  frzs := fun b o xs e => by
    have hb := c.out e fun φ z => by cases z
    rw [trk_out hb]
    exact u.frzs b o xs (by rw [era_out hb]; exact e)
  tbls := fun b ps e => by
    have hb := c.out e fun φ z => by cases z
    obtain ⟨more, q⟩ := u.tbls b ps (by rw [era_out hb]; exact e)
    exact ⟨more, by rw [trk_out hb]; exact q⟩
theorem hok_trk {B : Heap} (ok : HOk P w H h) (ok' : HOk P w H' B) (c : CS cs H) (hf : ∀ a ∈ cs, H' a = none) (kp : ∀ a ∈ cs, ∀ o, h.get? a = some o → B.get? a = some o) : HOk P w (trk cs H H') B := fun a o e => by
  by_cases ha : a ∈ cs
  · rw [trk_in ha] at e
    obtain ⟨v, q⟩ := c a ha
    rw [q] at e
    cases e
    obtain ⟨p, ⟨ob, ho⟩, st⟩ := ok a _ q
    exact ⟨st _ _ p fun u hu => kp a ha u hu, ⟨ob, kp a ha ob ho⟩, st⟩
  · rw [trk_out ha] at e
    have up : ∀ b u, H' b = some u → trk cs H H' b = some u := fun b u q => by
      rw [trk_out (fun hb => by rw [hf b hb] at q; cases q)]
      exact q
    exact (ok' a o e).stay (fun b u _ q => q) (fun b q => up b _ q) fun b xs q => up b _ q
end
section
variable [TabCfg] {K : PySem.W.Frag} {mg : Str → Option Value} {β β' : List Addr} {H H' : Hp} {S S' : Sto} {ns : List Nat} {cs : List Addr} {P : Program} {w : World} {h : Heap}
/-- the cells' addresses -/
def csOf (β : List Addr) (ns : List Nat) : List Addr := ns.map fun n => (β[n]?).getD 0
theorem mem_csOf {c : Addr} (hc : c ∈ csOf β ns) (hl : ∀ n ∈ ns, n < β.length) : ∃ n ∈ ns, β[n]? = some c := by
  obtain ⟨n, hn, e⟩ := List.mem_map.mp hc
  refine ⟨n, hn, ?_⟩
  have e : (β[n]?).getD 0 = c := e
  rw [List.getElem?_eq_getElem (hl n hn)] at e ⊢
  exact congrArg some e
theorem csOf_mem {n : Nat} {c : Addr} (hn : n ∈ ns) (e : β[n]? = some c) : c ∈ csOf β ns := by
  unfold csOf
  refine List.mem_map.mpr ⟨n, hn, ?_⟩
  rw [e]
  rfl
theorem cels_lt (r : Rl K mg β H S) {es : List D} (e : celsD S ns = some es) : ∀ n ∈ ns, n < β.length := fun n hn => by
  obtain ⟨d, q⟩ := celsD_mem e n hn
  rw [r.len]
  exact (List.getElem?_eq_some_iff.mp q).1
theorem cels_cs (r : Rl K mg β H S) {es : List D} (e : celsD S ns = some es) : CS (csOf β ns) H := fun c hc => by
  obtain ⟨n, hn, q⟩ := mem_csOf hc (cels_lt r e)
  obtain ⟨d, q2⟩ := celsD_mem e n hn
  obtain ⟨v, q3, _⟩ := r.at' n c _ q q2
  exact ⟨v, q3⟩
theorem cels_vds (r : Rl K mg β H S) : ∀ {ns : List Nat} {es : List D}, celsD S ns = some es → ∃ ws, Vds K mg β H ws es ∧ ws.length = ns.length ∧ ∀ (j n : Nat), ns[j]? = some n → ∃ c v, β[n]? = some c ∧ ws[j]? = some v ∧ H c = some (CellO c v)
  | [], _, e => by
    cases e
    exact ⟨[], .nil, rfl, fun j n h => by simp at h⟩
  | n :: l, es, e => by
    unfold celsD at e
    cases q : S[n]? with
    | none => rw [q] at e; cases e
    | some o =>
      rw [q] at e
      cases o with
      | cel d =>
        try dsimp only at e
        cases q2 : celsD S l with
        | none => rw [q2] at e; cases e
        | some ds' =>
          rw [q2] at e
          cases e
          obtain ⟨ws, h1, h2, h3⟩ := cels_vds r q2
          have hl : n < β.length := by
            rw [r.len]
            exact (List.getElem?_eq_some_iff.mp q).1
          obtain ⟨v, h4, h5⟩ := r.at' n β[n] _ (List.getElem?_eq_getElem hl) q
          refine ⟨v :: ws, .cons h5 h1, by rw [List.length_cons, List.length_cons, h2], fun j m hj => ?_⟩
          cases j with
          | zero =>
            rw [List.getElem?_cons_zero] at hj
            cases hj
            exact ⟨_, v, List.getElem?_eq_getElem hl, rfl, h4⟩
          | succ j => exact h3 j m (by simpa using hj)
      | _ => cases e
theorem rl_era (r : Rl K mg β H S) (ok : HOk P w H h) {es : List D} (e : celsD S ns = some es) : Rl K mg β (era (csOf β ns) H) (openD S ns) := by
  have c := cels_cs r e
  have x : Xt K β H β (era (csOf β ns) H) := xt_era ok c
  have old : ∀ n o, (openD S ns)[n]? = some o → o.wr = true → n ∉ ns ∧ S[n]? = some o := fun n o q hw => by
    rw [openD_get] at q
    by_cases hn : n ∈ ns
    · rw [if_pos hn] at q
      cases q2 : S[n]? with
      | none => rw [q2] at q; cases q
      | some u => rw [q2] at q; cases q; cases hw
    · rw [if_neg hn] at q
      exact ⟨hn, q⟩
  refine ⟨by rw [openD_len]; exact r.len, fun n a o h1 h2 => ?_, fun n m a o u h1 h2 h3 h4 w1 w2 => ?_, fun p hp => tabN_stay (r.tabs p hp) x fun ps q => by rw [era_out (c.out q fun φ z => by cases z)]; exact q⟩
  · rw [openD_get] at h2
    by_cases hn : n ∈ ns
    · rw [if_pos hn] at h2
      cases q2 : S[n]? with
      | none => rw [q2] at h2; cases h2
      | some u => rw [q2] at h2; cases h2; exact True.intro
    · rw [if_neg hn] at h2
      refine (r.at' n a o h1 h2).ext x (fun hw => era_out fun ha => ?_) fun u v q => by rw [era_out (c.out q fun φ z => by cases z)]; exact q
      obtain ⟨m, hm, q⟩ := mem_csOf ha (cels_lt r e)
      obtain ⟨d, q2⟩ := celsD_mem e m hm
      exact hn (by rw [r.uniq n m a o _ h1 q h2 q2 hw rfl]; exact hm)
  · exact r.uniq n m a o u h1 h2 (old n o h3 w1).2 (old m u h4 w2).2 w1 w2
theorem rl_trk (r : Rl K mg β H S) (ok : HOk P w H h) {es : List D} (e : celsD S ns = some es) (x : Xt K β (era (csOf β ns) H) β' H') (r' : Rl K mg β' H' S') (hf : ∀ c ∈ csOf β ns, H' c = none) : Rl K mg β' (trk (csOf β ns) H H') (closeC S S' ns) := by
  have c := cels_cs r e
  have x1 : Xt K β H β' (trk (csOf β ns) H H') := xt_trk ok c x
  have x2 : Xt K β' H' β' (trk (csOf β ns) H H') := xt_up hf
  have up : ∀ a u, H' a = some u → trk (csOf β ns) H H' a = some u := fun a u q => by
    rw [trk_out (fun hb => by rw [hf a hb] at q; cases q)]
    exact q
  have inn : ∀ n o, n ∈ ns → (closeC S S' ns)[n]? = some o → ∃ d, o = .cel d ∧ S[n]? = some (.cel d) ∧ ∃ a, β[n]? = some a ∧ β'[n]? = some a ∧ a ∈ csOf β ns := fun n o hn q => by
    obtain ⟨d, q2⟩ := celsD_mem e n hn
    have hl := cels_lt r e n hn
    exact ⟨d, closeC_in S n _ _ q2 ns S' hn q, q2, β[n], List.getElem?_eq_getElem hl, x.at' (List.getElem?_eq_getElem hl), csOf_mem hn (List.getElem?_eq_getElem hl)⟩
  refine ⟨by rw [closeC_len]; exact r'.len, fun n a o h1 h2 => ?_, fun n m a o u h1 h2 h3 h4 w1 w2 => ?_, fun p hp => tabN_stay (r'.tabs p hp) x2 fun ps q => up _ _ q⟩
  · by_cases hn : n ∈ ns
    · obtain ⟨d, rfl, q2, b, q3, q4, q5⟩ := inn n o hn h2
      rw [h1] at q4
      cases q4
      obtain ⟨v, g1, g2⟩ := r.at' n a _ q3 q2
      exact ⟨v, by rw [trk_in q5]; exact g1, g2.ext x1⟩
    · rw [closeC_out ns S S' n hn] at h2
      have ho := r'.at' n a o h1 h2
      refine ho.ext x2 (fun hw => ?_) fun u v q => up _ _ q
      obtain ⟨y, q, _⟩ := ho.tracked hw
      rw [q]
      exact up _ _ q
  · have tr : ∀ k z, k ∉ ns → (closeC S S' ns)[k]? = some z → z.wr = true → β'[k]? = some a → ∃ y, H' a = some y := fun k z hk q hw h => by
      rw [closeC_out ns S S' k hk] at q
      obtain ⟨y, q2, _⟩ := (r'.at' k a z h q).tracked hw
      exact ⟨y, q2⟩
    by_cases hn : n ∈ ns
    · obtain ⟨d, rfl, q2, b, q3, q4, q5⟩ := inn n o hn h3
      rw [h1] at q4
      cases q4
      by_cases hm : m ∈ ns
      · obtain ⟨d', rfl, p2, b', p3, p4, p5⟩ := inn m u hm h4
        rw [h2] at p4
        cases p4
        exact r.uniq n m a _ _ q3 p3 q2 p2 w1 w2
      · obtain ⟨y, q⟩ := tr m u hm h4 w2 h2
        rw [hf a q5] at q
        cases q
    · by_cases hm : m ∈ ns
      · obtain ⟨d', rfl, p2, b', p3, p4, p5⟩ := inn m u hm h4
        rw [h2] at p4
        cases p4
        obtain ⟨y, q⟩ := tr n o hn h3 w1 h1
        rw [hf a p5] at q
        cases q
      · rw [closeC_out ns S S' n hn] at h3
        rw [closeC_out ns S S' m hm] at h4
        exact r'.uniq n m a o u h1 h2 h3 h4 w1 w2
end
/-! ### the call -/
def runV (m : List D → Sto → R D) (ns : List Nat) (ds : List D) (S : Sto) : R D := match celsD S ns with
  | some es => match m (ds ++ es) (openD S ns) with
    | .ok d S' => .ok d (closeC S S' ns)
    | .ex x S' => .ex x (closeC S S' ns)
    | .stuck => .stuck
  | none => .stuck
abbrev VTab := List (NW × (List D → Sto → R D))
open Classical in
noncomputable def callV (tab : VTab) (o : D) (ds : List D) (S : Sto) : R D := match o with
  | .ref n => match S[n]? with
    | some (.fn i W ns) => match tab[i]? with
      | some (W', m) => if W = W' then runV m ns ds S else .stuck
      | none => .stuck
    | _ => .stuck
  | _ => .stuck
def isFn (o : D) (S : Sto) : Bool := match o with
  | .ref n => match S[n]? with
    | some (.fn _ _ _) => true
    | _ => false
  | _ => false
noncomputable def mCallV (tab : VTab) (mo : Mx) (ma : Ma) : Mx := fun ρ S => (mo ρ S).bind fun o S1 => if isFn o S1 = true then (ma ρ S1).bind fun ds S2 => callV tab o ds S2 else .stuck
section
variable [TabCfg] {X : Cx} {W : WX}
/-- the functions of the table: each one keeps its promise, or is never asked -/
structure VOk (X : Cx) (j n : Nat) (tab : VTab) : Prop where
  has : ∀ (i : Nat) (U : NW) (m : List D → Sto → R D), tab[i]? = some (U, m) → (∀ ds S, m ds S = .stuck) ∨ ∃ k, NQ X.prog X.w X.K X.mg X.base k U n m ∧ k ≤ j
theorem vok_nil {j n : Nat} : VOk X j n [] := ⟨fun i W m h => by simp at h⟩
theorem vok_cons {j n k : Nat} {V : NW} {m : List D → Sto → R D} {tab : VTab} (q : NQ X.prog X.w X.K X.mg X.base k V n m) (t : VOk X j n tab) (hkj : k ≤ j := by decide) : VOk X j n ((V, m) :: tab) := ⟨fun i W' m' h => by
  cases i with
  | zero =>
    rw [List.getElem?_cons_zero] at h
    cases h
    exact .inr ⟨k, q, hkj⟩
  | succ i => exact t.has i W' m' (by simpa using h)⟩
theorem vok_skip {j n : Nat} {V : NW} {tab : VTab} (t : VOk X j n tab) : VOk X j n ((V, fun _ _ => .stuck) :: tab) := ⟨fun i W' m' h => by
  cases i with
  | zero =>
    rw [List.getElem?_cons_zero] at h
    cases h
    exact .inl fun _ _ => rfl
  | succ i => exact t.has i W' m' (by simpa using h)⟩
theorem fn_ref {β : List Addr} {H : Hp} {S : Sto} {od : D} {v : V} (r : Rl X.K X.mg β H S) (hv : Vd X.K X.mg β H v od) (e : isFn od S = true) : ∃ (a : Addr) (U : NW) (cl : List (Str × Addr)) (c : Addr), v = .ref a ∧ H a = some (FnQ a U cl c) := by
  unfold isFn at e
  cases od with
  | ref n =>
    obtain ⟨a, rfl, h1⟩ := hv.ref_inv
    dsimp only at e
    cases q : S[n]? with
    | none => rw [q] at e; cases e
    | some o =>
      rw [q] at e
      cases o with
      | fn i U ns =>
        obtain ⟨cl, c, g1, _⟩ := r.at' n a _ h1 q
        exact ⟨a, U, cl, c, rfl, g1⟩
      | _ => cases e
  | _ => cases e
theorem fnq_fnAt {P : Program} {w : World} {H : Hp} {h : Heap} {f : Addr} {U : NW} {cl : List (Str × Addr)} {c : Addr} (hok : HOk P w H h) (e : H f = some (FnQ f U cl c)) : PySem.W.FnAt f h := by
  obtain ⟨od, sl, doc, pm, ctv, ho⟩ := fnq_at hok e
  exact ⟨_, od, _, sl, ho⟩
theorem callV_run {j n : Nat} {tab : VTab} {pins : List (Addr × Obj)} {σ : L2.St} {β : List Addr} {H : Hp} {S : Sto} {s : Shared} {Q : VK} {a : Addr} {od : D} {us : List Value} {vs : List V} {ds : List D} (t : VOk X j n tab) (hr : Room j X.A) (tk : Takes X W) (I : Inv X pins σ H s) (rl : Rl X.K X.mg β H S)
    (hv : Vd X.K X.mg β H (.ref a) od) (r : Vals vs us) (hvs : Vds X.K X.mg β H vs ds) (hn : vs.length = n) (q : Po X.K X.mg W σ β H (callV tab od ds S) fun d β' _ H' => ∀ v, Vd X.K X.mg β' H' v d → Q v H') :
    wpAny (model X.prog X.w) X.A (call (.ref a) us) (EP X pins σ Q) X.xe s := by
  unfold callV at q
  cases od with
  | ref m =>
    dsimp only at q
    obtain ⟨a', ea, h1⟩ := hv.ref_inv
    cases ea
    cases e1 : S[m]? with
    | none => rw [e1] at q; exact q.elim
    | some ob =>
      rw [e1] at q
      cases ob with
      | fn i U ns =>
        dsimp only at q
        cases e2 : tab[i]? with
        | none => rw [e2] at q; exact q.elim
        | some p =>
          obtain ⟨U', mm⟩ := p
          rw [e2] at q
          dsimp only at q
          split at q
          · rename_i hU
            subst hU
            obtain ⟨cl, c, g1, g2, g3⟩ := rl.at' m a _ h1 e1
            unfold runV at q
            cases e3 : celsD S ns with
            | none => rw [e3] at q; exact q.elim
            | some es =>
              rw [e3] at q
              dsimp only at q
              rcases t.has i U mm e2 with z | ⟨k, Fn, hk⟩
              · rw [z] at q; exact q.elim
              obtain ⟨ws, w1, w2, w3⟩ := cels_vds rl e3
              have cs := cels_cs rl e3
              have ok := I.hok
              have x := xt_era (K := X.K) (β := β) ok cs
              have r2 := rl_era rl ok e3
              have e0 := I.env0
              have nofs : ∀ b ∈ csOf β ns, b ∉ frs X.stack := fun b hb z => by
                obtain ⟨v, q1⟩ := cs b hb
                rw [e0.frf b z] at q1
                cases q1
              have e0' : Env0 X.prog X.w X.K X.mg X.base X.A X.stack s (era (csOf β ns) H) := ⟨e0.frames, e0.mod, fun b o hb => ⟨(e0.bs b o hb).1, by rw [era_out (cs.outN (e0.bs b o hb).2)]; exact (e0.bs b o hb).2⟩, e0.bsz, e0.funs, fun b hb => by rw [era_out (cs.outN (e0.frf b hb))]; exact e0.frf b hb, hok_era ok cs, e0.bare⟩
              have cells : NdefX.CellsAt cl U.fr (ws.map some) s.heap (era (csOf β ns) H) := by
                refine ⟨by rw [List.length_map, w2]; exact g3.len, fun y c' hy => ?_, g3.inj, fun i' y hy => ?_⟩
                · obtain ⟨jj, hj⟩ := List.mem_iff_getElem?.mp (g3.sub y c' hy)
                  obtain ⟨n', a', k1, k2, k3⟩ := g3.has jj y hj
                  rw [hy] at k3
                  cases k3
                  have hin := csOf_mem (List.mem_of_getElem? k1) k2
                  obtain ⟨v, q1⟩ := cs _ hin
                  obtain ⟨u, _, hu⟩ := cell_here ok q1
                  exact ⟨era_in hin, some u, hu⟩
                · obtain ⟨n', a', k1, k2, k3⟩ := g3.has i' y hy
                  refine ⟨a', k3, fun v hv' => ?_⟩
                  obtain ⟨c', v', j1, j2, j3⟩ := w3 i' n' k1
                  rw [k2] at j1
                  cases j1
                  rw [List.getElem?_map, j2] at hv'
                  cases hv'
                  exact cell_here ok j3
              have wl : ws.length = U.fr.length := by rw [w2]; exact g3.len
              have sp : spM X.K X.mg (n + U.fr.length) mm (vs ++ ws) (era (csOf β ns) H) (fun v H' => (∀ c ∈ csOf β ns, H' c = none) → Q v (trk (csOf β ns) H H')) (fun cls od H' => (∀ c ∈ csOf β ns, H' c = none) → W cls od σ (trk (csOf β ns) H H')) := by
                refine ⟨by rw [List.length_append, hn, wl], β, openD S ns, ds ++ es, r2, Vds.append (hvs.ext x) (w1.ext x), ?_⟩
                cases e4 : mm (ds ++ es) (openD S ns) with
                | ok d S' =>
                  rw [e4] at q
                  intro β' H' v x' r' hv' hf
                  exact q β' _ (xt_trk ok cs x') (rl_trk rl ok e3 x' r' hf) v (hv'.ext (xt_up hf))
                | ex z S' =>
                  rw [e4] at q
                  intro cls od β' H' x' r' hx hf
                  refine q cls od β' _ (xt_trk ok cs x') (rl_trk rl ok e3 x' r' hf) ?_
                  obtain ⟨C, z1, z2, z3⟩ := hx
                  exact ⟨C, z1, z2, z3.ext (xt_up hf)⟩
                | stuck => rw [e4] at q; exact q.elim
              have kpc : ∀ b ∈ csOf β ns, ∃ o, s.heap.get? b = some o := fun b hb => by
                obtain ⟨v, q1⟩ := cs b hb
                obtain ⟨u, _, o, ho, _⟩ := cell_here ok q1
                exact ⟨o, ho⟩
              refine wpAny_call (codeAny_mono (Fn.run a cl c X.A X.stack s _ us vs ws _ _ (hr.mono hk) e0' (x.fnq _ _ _ _ g1) (x.cod _ _ g2) cells r hn sp) fun res s' back => ?_)
              match res, back with
              | .error y, back =>
                obtain ⟨ax, B, H', cls, dd, rfl, fl, okB, ub, na, os, ag, hE⟩ := back
                have hf : ∀ c ∈ csOf β ns, H' c = none := fun c hc => by
                  obtain ⟨o, ho⟩ := kpc c hc
                  exact ub.free c o ho (era_in hc)
                have kp : ∀ c ∈ csOf β ns, ∀ o, s.heap.get? c = some o → B.get? c = some o := fun c hc o ho => ub.keep c o ho (era_in hc) (nofs c hc)
                refine passAt tk σ pins H s _ s' I ⟨ax, B, trk (csOf β ns) H H', cls, dd, rfl, fl, hok_trk ok okB cs hf kp, ub_trk ub cs, ?_, os, ag, hE hf⟩
                rw [trk_out (fun hc => by
                  obtain ⟨o, ho⟩ := kpc ax hc
                  have := kp ax hc o ho
                  rw [fl.2.1] at this
                  cases this)]
                exact na
              | .ok (.ret u), back =>
                obtain ⟨v, H', os, bare, un, ok', rv, q'⟩ := back
                have hf : ∀ c ∈ csOf β ns, H' c = none := fun c hc => by
                  obtain ⟨o, ho⟩ := kpc c hc
                  exact un.free c o ho (era_in hc) (by simp)
                have kp : ∀ c ∈ csOf β ns, ∀ o, s.heap.get? c = some o → s'.heap.get? c = some o := fun c hc o ho => un.keep c o ho (era_in hc) (nofs c hc) (by simp)
                exact I.after ⟨v, trk (csOf β ns) H H', os, bare, un_trk un cs, hok_trk ok ok' cs hf kp, rv, q' hf⟩
              | .ok .next, back => exact back.elim
              | .ok .brk, back => exact back.elim
              | .ok .cont, back => exact back.elim
          · exact q.elim
      | _ => exact q.elim
  | _ => exact q.elim
/-- x(..), x a name that holds a function -/
theorem me_callv {j n i : Nat} {tab : VTab} {x : Str} {p pos : Pos} {e : Expr} {es : List Expr} {ma : Ma} (t : VOk X j n tab) (hr : Room j X.A) (tk : Takes X W) (ha : MA X W (e :: es) ma) (hl : ∀ β H vs ds ρ S S', Vds X.K X.mg β H vs ds → ma ρ S = .ok ds S' → vs.length = n)
    (hN : X.N[i]? = some x := by rfl) (hvis : Vis X.env.scope x := by first | exact .inl rfl | exact .inr (.inl rfl) | exact .inr (.inr rfl)) (hd : (x == ("__debug__" : Str)) = false := by decide) (hcd : (x == ("__classdict__" : Str)) = false := by decide)
    (he : starEach (e :: es) X.env = (false, eval e X.env) :: starEach es X.env := by rfl) (hpl : (backTo pos (starEach es X.env)).any (·.1) = false := by rfl) :
    ME X W (.Call (.Name x p) (e :: es) [] pos) (mCallV tab (mVar i) ma) := by
  refine ⟨⟨fun pins s σ H Q I ⟨β, S, ρ, rl, en, q⟩ => ?_⟩⟩
  have q : Po X.K X.mg W σ β H ((getV ρ i S).bind fun o S1 => if isFn o S1 = true then (ma ρ S1).bind fun ds S2 => callV tab o ds S2 else .stuck) _ := q
  unfold getV at q
  cases e1 : ρ[i]? with
  | none => rw [e1] at q; exact q.elim
  | some o1 =>
    cases o1 with
    | none => rw [e1] at q; exact q.elim
    | some od =>
      rw [e1] at q
      obtain ⟨v, hs, hv⟩ := en.at' i od e1
      have q : Po X.K X.mg W σ β H (if isFn od S = true then (ma ρ S).bind fun ds S2 => callV tab od ds S2 else .stuck) _ := q
      split at q
      · rename_i hf
        obtain ⟨a, U, cl, c, rfl, g1⟩ := fn_ref rl hv hf
        refine wpAny_Call_Name_kw (thn ((pe_var (pos := p) hN hvis hd hcd).run pins s σ H (fun v H1 => v = .ref a ∧ H1 = H) I ⟨.ref a, hs, rfl, rfl⟩) fun u s1 ⟨v, H1, I1, r1, q1⟩ => ?_)
        obtain ⟨ev, eH⟩ := q1
        subst ev
        rw [eH] at I1
        obtain rfl : u = Value.ref a := r1
        have q2 := q.bind
        have step : tMA X.K X.mg W ma σ H fun vs H2 => vs.length = n ∧ ∃ β2 S2 ds, Rl X.K X.mg β2 H2 S2 ∧ Vds X.K X.mg β2 H2 vs ds ∧ Xt X.K β H β2 H2 ∧ Po X.K X.mg W σ β2 H2 (callV tab od ds S2) fun d β' _ H' => ∀ v, Vd X.K X.mg β' H' v d → Q v H' := by
          refine ⟨β, S, ρ, rl, en, ?_⟩
          cases e2 : ma ρ S with
          | ok ds S2 =>
            rw [e2] at q2
            exact fun β2 H2 x2 r2 vs hvs => ⟨hl β2 H2 vs ds ρ S S2 hvs e2, β2, S2, ds, r2, hvs, x2, q2 β2 H2 x2 r2⟩
          | ex z S2 => rw [e2] at q2; exact q2
          | stuck => rw [e2] at q2; exact q2
        refine PySem.W.callWith_F (first := []) (fnq_fnAt I1.hok g1) (thn (ha.pa.run pos pins s1 σ H _ I1 step) fun us s2 ⟨vs, H2, I2, r, hn, β2, S2, ds, r2, hvs, x2, q3⟩ => ⟨fnq_fnAt I2.hok (x2.fnq _ _ _ _ g1), ?_⟩) he hpl
        exact callV_run t hr tk I2 r2 (hv.ext x2) r hvs hn q3
      · exact q.elim
end
end Eng

set_option maxHeartbeats 2000000
/-! The engine, part 22: defs that give back functions. -/
namespace Eng
open PySem PySem.Spec PyProof.Rows L2
variable [TabCfg]
/-! ### more is tracked at the end: the cells of the frame -/
def Tk (X : Cx) (H H2 : Hp) (s : Shared) : Prop := ∀ b, H2 b = H b ∨ (H b = none ∧ X.s_0.heap.objs.size ≤ b ∧ ∃ v, H2 b = some (CellO b v) ∧ ∃ u, RelV v u ∧ s.heap.IsCell b (some u))
def FP (X : Cx) (pins : List (Addr × Obj)) (D : Ends) (f : Flow) (s' : Shared) : Prop := match f with
  | .next => ∃ σ' H', Inv X pins σ' H' s' ∧ D.nx σ' H'
  | .ret u => ∃ v σ' H' H2, Inv X pins σ' H' s' ∧ RelV v u ∧ Tk X H' H2 s' ∧ D.rt v H2
  | _ => False
structure FS (X : Cx) (W : WX) (st : Stmt) (m : Ms) : Prop where
  run : ∀ (pins : List (Addr × Obj)) (s : Shared) (σ : L2.St) (H : Hp) (D : Ends), Inv X pins σ H s → tMS X.K X.mg W m D σ H → wpAny (model X.prog X.w) X.A (exec st X.env) (FP X pins D) X.xe s
structure FSs (X : Cx) (W : WX) (st : List Stmt) (m : Ms) : Prop where
  run : ∀ (pins : List (Addr × Obj)) (s : Shared) (σ : L2.St) (H : Hp) (D : Ends), Inv X pins σ H s → tMS X.K X.mg W m D σ H → wpAny (model X.prog X.w) X.A (execs st X.env) (FP X pins D) X.xe s
section
variable {X : Cx} {W : WX} {st : Stmt} {rest : List Stmt} {a b m : Ms} {c : Expr} {mc : Mb} {pos : Pos}
theorem Tk.refl {H : Hp} {s : Shared} : Tk X H H s := fun _ => .inl rfl
theorem fs_of (h : MS X W st m) : FS X W st m := by
  refine ⟨fun pins s σ H D I t => thn (h.ps.run pins s σ H { nx := D.nx, rt := D.rt } I t) fun f s' q => ?_⟩
  match f, q with
  | .next, q => exact q
  | .ret u, ⟨v, σ', H', J, r, q⟩ => exact ⟨v, σ', H', H', J, r, .refl, q⟩
  | .brk, ⟨_, _, _, q⟩ => exact q.elim
  | .cont, ⟨_, _, _, q⟩ => exact q.elim
theorem fss_of (h : MSs X W rest m) : FSs X W rest m := by
  refine ⟨fun pins s σ H D I t => thn (h.ps.run pins s σ H { nx := D.nx, rt := D.rt } I t) fun f s' q => ?_⟩
  match f, q with
  | .next, q => exact q
  | .ret u, ⟨v, σ', H', J, r, q⟩ => exact ⟨v, σ', H', H', J, r, .refl, q⟩
  | .brk, ⟨_, _, _, q⟩ => exact q.elim
  | .cont, ⟨_, _, _, q⟩ => exact q.elim
theorem fss_cons (h1 : FS X W st a) (h2 : FSs X W rest b) : FSs X W (st :: rest) (sSeq a b) := by
  refine ⟨fun pins s σ H D I ⟨β, S, ρ, rl, en, q⟩ => ?_⟩
  have t : tMS X.K X.mg W a { nx := fun σ' H' => tMS X.K X.mg W b D σ' H', rt := D.rt } σ H := by
    refine ⟨β, S, ρ, rl, en, ?_⟩
    unfold sSeq at q
    cases e : a ρ S with
    | fl f S1 =>
      rw [e] at q
      cases f with
      | nx ρ1 => exact fun β' H' σ' x r en' => ⟨β', S1, ρ1, r, en', q.xt x⟩
      | rt d => exact q
    | ex x ρ1 S1 => rw [e] at q; exact q
    | stuck => rw [e] at q; exact q
  refine wpAny_execs_cons (thn (h1.run pins s σ H _ I t) fun f s1 q => ?_)
  match f, q with
  | .next, ⟨σ', H', J, q⟩ => exact h2.run pins s1 σ' H' D J q
  | .ret u, q => exact q
  | .brk, q => exact q.elim
  | .cont, q => exact q.elim
theorem fss_one (h1 : FS X W st a) : FSs X W [st] a := by
  refine ⟨fun pins s σ H D I t => wpAny_execs_cons (thn (h1.run pins s σ H D I t) fun f s1 q => ?_)⟩
  match f, q with
  | .next, q => exact wpAny_execs_nil q
  | .ret u, q => exact q
  | .brk, q => exact q.elim
  | .cont, q => exact q.elim
theorem fss_nil : FSs X W [] sSkip := fss_of ms_nil
theorem fs_if {p q : List Stmt} (hc : MT X W c mc) (ha : FSs X W p a) (hb : FSs X W q b) : FS X W (.If c p q pos) (sIf mc a b) := by
  refine ⟨fun pins s σ H D I ⟨β, S, ρ, rl, en, t⟩ => ?_⟩
  have t2 : tMT X.K X.mg W mc σ H fun k H1 => if k = true then tMS X.K X.mg W a D σ H1 else tMS X.K X.mg W b D σ H1 := by
    refine ⟨β, S, ρ, rl, en, (PoS.st t en).mono fun k β1 S1 H1 x1 r1 t1 => ?_⟩
    cases k with
    | true => exact ⟨β1, S1, ρ, r1, en.ext x1, t1⟩
    | false => exact ⟨β1, S1, ρ, r1, en.ext x1, t1⟩
  refine wpAny_If (thn (hc.pt.run pins s σ H _ I t2) fun d s1 ⟨H1, I1, q1⟩ => ?_)
  cases d with
  | true => exact ha.run pins s1 σ H1 D I1 q1
  | false => exact hb.run pins s1 σ H1 D I1 q1
end
/-! ### the def -/
section
variable {fs : List Addr} {H0 H H2 : Hp} {h0 h : Heap} {P : Program} {w : World}
theorem un_tk {X : Cx} {s' : Shared} (u : Un fs [] H0 H X.s_0.heap s'.heap) (t : Tk X H H2 s') : Un fs [] H0 H2 X.s_0.heap s'.heap where
  keep := u.keep
  slot := u.slot
  free := fun b o e n hx => by
    rcases t b with z | ⟨_, z, _⟩
    · rw [z]; exact u.free b o e n hx
    · exact absurd (Heap.lt_size e) (Nat.not_lt.mpr z)
  there := u.there
  tups := fun b xs e => by
    have q := u.tups b xs e
    rcases t b with z | ⟨z, _⟩
    · rw [z]; exact q
    · rw [z] at q; cases q
  frzs := fun b o xs e => by
    have q := u.frzs b o xs e
    rcases t b with z | ⟨z, _⟩
    · rw [z]; exact q
    · rw [z] at q; cases q
  tbls := fun b ps e => by
    obtain ⟨more, q⟩ := u.tbls b ps e
    rcases t b with z | ⟨z, _⟩
    · exact ⟨more, by rw [z]; exact q⟩
    · rw [z] at q; cases q
theorem cell_ok {b : Addr} {v : V} {u : Value} (r : RelV v u) (c : h.IsCell b (some u)) : ObjOk P w H h b (CellO b v) := by
  refine ⟨⟨u, r, c⟩, ?_, fun h1 h2 ⟨u', r', o', e, d⟩ st => ⟨u', r', o', st _ e, d⟩⟩
  obtain ⟨o, e, _⟩ := c
  exact ⟨o, e⟩
theorem hok_tk {X : Cx} {s' : Shared} (ok : HOk P w H s'.heap) (t : Tk X H H2 s') : HOk P w H2 s'.heap := fun a o e => by
  have up : ∀ b u, H b = some u → H2 b = some u := fun b u q => by
    rcases t b with z | ⟨z, _⟩
    · rw [z]; exact q
    · rw [z] at q; cases q
  rcases t a with z | ⟨_, _, v, z, u, r, c⟩
  · rw [z] at e
    exact (ok a o e).stay (fun b u _ q => q) (fun b q => up b _ q) fun b xs q => up b _ q
  · rw [z] at e
    cases e
    exact cell_ok r c
end
theorem maker_ok {P : Program} {w : World} {K : PySem.W.Frag} {mg : Str → Option Value} {base : Heap} {x qual : Str} {st : Stmt} {f c : Addr} {N ps : List Str} {k : Nat} {b : Ms} {oc kV doc pm ct : Value} {od an : Option Addr} {osl : Array (Option Value)}
    (lk : K.lookup f = some ⟨oc, od, .func (PySem.W.fnOf x qual (defArgs st) (defBody st) (defScope st) .none kV doc pm an (.ref c) ct), osl⟩) (hcd : PySem.W.codeIn K (.ref c) qual = true) (S : FnScope N ps (defScope st))
    (h : ∀ (A : Around) (outer : List Env) (s : Shared) (H : Hp) (E : XK), Room k (A.deeper (envOfC qual (defScope st) s.heap.objs.size f (.ref c))) →
      FSs (cxOf (L2.CX P w) P w K mg base N qual (defScope st) f (.ref c) A outer s H E) (fun cls d _ H => E cls d H) (defBody st) b) :
    FnOk P w K mg base (L2.CX P w) (k + 1) f (PySem.W.fnOf x qual (defArgs st) (defBody st) (defScope st) .none kV doc pm an (.ref c) ct) ps (spM K mg ps.length (mDef N.length b)) := by
  refine ⟨fun vs H Q E hq => hq.1, fun A outer s H args us vs Q E hr e0 hb r hsp => ?_⟩
  have hl : vs.length = ps.length := hsp.1
  have kin : K.In s.heap := e0.mod.kin.keeps fun b o e => (e0.bs b o e).1
  have hkind : ∀ y ∈ ps.zip us, (defScope st).names.lookup y.1 = some .local ∨ ((defScope st).names.lookup y.1 = some .cell ∧ ((cellsFrom (s.heap.objs.size + 1) (defScope st).names []).lookup y.1).isSome = true) := fun y hy =>
    (S.par y.1 (List.of_mem_zip hy).1).elim .inl fun q => .inr ⟨q, PySem.W.cellsFrom_some _ _ _ (.inl q)⟩
  have lim : s.heap.NoLimit := e0.mod.nolimit.keeps fun b o e => (e0.bs b o e).1
  refine codeAny_call_function hr.depth (kin _ _ lk) rfl S.co S.gen rfl (PySem.W.codeRec_of kin hcd) (hb _ _ _ _ (wpAny_newFunctionEnv_cells S.kind hkind fun env he s1 z => ?_))
  subst he
  refine ⟨lim.keeps z.toInCall.keep, codeAny_func ?_⟩
  have I := inv_start (CX := L2.CX P w) (mg := mg) (E := E) S hr.hd e0 hl r z
  obtain ⟨hn, β, S', ds, rl, hv, q⟩ := hsp
  have t : tMS K mg (fun cls d _ H => E cls d H) b { nx := fun _ H' => Q .non H', rt := Q } (L2.start N vs) H := by
    refine ⟨β, S', ds.map some ++ List.replicate (N.length - ds.length) none, rl, en_start hv, ?_⟩
    unfold mDef at q
    cases e : b (ds.map some ++ List.replicate (N.length - ds.length) none) S' with
    | fl g S2 =>
      rw [e] at q
      cases g with
      | nx ρ => exact fun β' H2 σ' x r _ => q β' H2 .non x r .non
      | rt d => exact fun β' H2 v x r hv => q β' H2 v x r hv
    | ex x ρ S2 => rw [e] at q; exact fun cls od β' H2 σ' y r _ hx => q cls od β' H2 y r hx
    | stuck => rw [e] at q; exact q
  refine wpAny_mono ((h A outer s H E (hr.deeper _)).run [] s1 _ H _ I t) (fun fl s' back => ?_) fun e s' back => back
  match fl, back with
  | .ret u, ⟨v, σ', H', H2, J, rv, tk, q⟩ => exact ⟨v, H2, J.os, J.bare, un_tk (X := cxOf (L2.CX P w) P w K mg base N qual (defScope st) f (.ref c) A outer s H E) J.base tk, hok_tk J.hok tk, rv, q⟩
  | .next, ⟨σ', H', J, q⟩ => exact ⟨V.non, H', J.os, J.bare, J.base, J.hok, rfl, q⟩
  | .brk, back => exact back.elim
  | .cont, back => exact back.elim
end Eng

set_option maxHeartbeats 2000000
/-! The engine, part 23: functions made and handed back. -/
namespace Eng
open PySem PySem.Spec PyProof.Rows L2
variable [TabCfg]
section
variable {X : Cx} {pins : List (Addr × Obj)} {σ : L2.St} {H : Hp} {s : Shared}
/-- a lambda's object is laid; its code object is new, or found in the table -/
theorem lam_made {T : List NdefX.NTab} {nm : Nat → Nat → Str} {c P : Addr} {params : Arguments} {body : Expr} {scope : Scope} {pos : Pos} {fr : List Str} {E : Value → Shared → Prop} {Q : Value → Shared → Prop} (I : Inv X pins σ H s) (TB : LamX.TabB X.base X.mg c P) (hcode : X.env.code = .ref c)
    (hm : (P, nm) ∈ T) (hn : nm pos.line pos.col = X.env.qual ++ "<lambda>") (hu : ∀ p ∈ T, p.1 = P → p.2 = nm) (hT : NdefX.TabsN T H) (hdef : defaultsOf params X.env = ([], [])) (hfree : ∀ y ∈ scope.names, y.2 = .free → ∃ c, X.env.cells.lookup y.1 = some c)
    (h : ∀ (f c' : Addr) (H1 : Hp) (s' : Shared), Inv X pins σ H1 s' → LamX.ExtN H H1 → NdefX.TabsN T H1 → H f = none → H1 f = some (FnQ f ⟨"<lambda>", X.env.qual ++ "<lambda>", params, .expr body, scope, fr⟩ (cloFrom X.env.cells scope.names []) c') → H1 c' = some (LamX.CodeO c' (X.env.qual ++ "<lambda>")) → Q (.ref f) s') :
    wpAny (model X.prog X.w) X.A (eval (.Lambda params body scope pos) X.env) Q E s := by
  have lay : ∀ {H1 : Hp} {h' : Heap} {tk : Tok} {c' : Addr} {pm ctv : Value} {s1 : Shared}, Inv X pins σ H1 { s1 with heap := h', toks := tk } →
      Inv X pins σ (upd H1 h'.objs.size (FnQ h'.objs.size ⟨"<lambda>", X.env.qual ++ "<lambda>", params, .expr body, scope, fr⟩ (cloFrom X.env.cells scope.names []) c')) { s1 with heap := h'.push (PySem.W.kla_obj "<lambda>" (X.env.qual ++ "<lambda>") params body scope (cloFrom X.env.cells scope.names []) pm c' ctv), toks := tk } := fun {H1 h' tk c' pm ctv s1} J => by
    have e : (h'.push (PySem.W.kla_obj "<lambda>" (X.env.qual ++ "<lambda>") params body scope (cloFrom X.env.cells scope.names []) pm c' ctv)).get? h'.objs.size = some (PySem.W.kla_obj "<lambda>" (X.env.qual ++ "<lambda>") params body scope (cloFrom X.env.cells scope.names []) pm c' ctv) := Heap.get?_push_size _ rfl
    refine J.laid (a := h'.objs.size) (fun b u e => Heap.get?_push_of_some _ e) (Nat.le_refl _) ?_
    exact ⟨⟨_, _, _, pm, ctv, e⟩, ⟨_, e⟩, fun h1 h2 ⟨od, sl, d, p, t, z⟩ st => ⟨od, sl, d, p, t, st _ z⟩⟩
  obtain ⟨ps, hP, ht, ha⟩ := (show NdefX.TabN H P nm from hT _ hm)
  refine PySem.W.kla_eval hdef ?_
  have bP : s.heap.BuiltinsAt X.mg P := TB.bm.keeps I.bk
  have hP' : s.heap.get? P = some { cls := .none, data := .fields ps } := I.hok P _ hP
  cases hc : codeAmong pos ps.toList with
  | none =>
    refine PySem.W.kla_makeFunction (mg := X.mg) (c := c) (P := P) (ps := ps) (closure_ok hfree) I.ok.glob (I.mod.glob.keeps I.bk) hcode (TB.code.keeps I.bk) hP' ht hc TB.gP bP fun c' ctv h' tk hx hge hlt hrec htb => ?_
    obtain ⟨c2, oc, vs, t, e2, hoc, hd, hv⟩ := hrec
    cases e2
    have nC : H c' = none := I.hok.fresh hge
    have I1 := LamX.inv_table (q := X.env.qual ++ "<lambda>") (t' := tk) (more := #[rawInt pos.line, rawInt pos.col, .ref c']) (h' := h') I hP (fun b o hb e => hx b o hb e) htb hge ⟨oc, vs, t, hoc, hd, hv⟩
    generalize hH1 : upd (upd H P (.tbl (ps ++ #[rawInt pos.line, rawInt pos.col, .ref c']))) c' (LamX.CodeO c' (X.env.qual ++ "<lambda>")) = H1 at I1
    have hE : LamX.ExtN H H1 := fun b o e n => by
      rw [← hH1, upd_ne (ne_of_none e nC), upd_ne (fun z => n ps (Option.some.inj (e.symm.trans (by rw [z]; exact hP))))]
      exact e
    have hcode1 : H1 c' = some (LamX.CodeO c' (X.env.qual ++ "<lambda>")) := by rw [← hH1]; exact upd_same
    have eL : (ps ++ #[rawInt pos.line, rawInt pos.col, .ref c']).toList = ps.toList ++ [rawInt pos.line, rawInt pos.col, .ref c'] := by simp
    have T1 : NdefX.TabsN T H1 := fun p hp => by
      by_cases hb : p.1 = P
      · rw [hu p hp hb, hb]
        refine ⟨_, by rw [← hH1, upd_ne (ne_of_none hP nC), upd_same], by rw [eL]; exact PySem.TriplesOk_snoc _ _ _ _ ht, fun p' cv hcv => ?_⟩
        rw [eL] at hcv
        rcases NdefX.among_app2 _ ht hcv with z | ⟨z, z1, z2⟩
        · obtain ⟨c0, e1, e2⟩ := ha p' cv z
          exact ⟨c0, e1, hE _ _ e2 LamX.codeO_ne⟩
        · refine ⟨c', z, ?_⟩
          rw [← z1, ← z2, hn]
          exact hcode1
      · obtain ⟨ps', a1, a2, a3⟩ := hT p hp
        refine ⟨ps', by rw [← hH1, upd_ne (ne_of_none a1 nC), upd_ne hb]; exact a1, a2, fun p' cv hcv => ?_⟩
        obtain ⟨c0, e1, e2⟩ := a3 p' cv hcv
        exact ⟨c0, e1, hE _ _ e2 LamX.codeO_ne⟩
    have nF := I1.hok.fresh (Nat.le_refl _)
    have nF0 : H h'.objs.size = none := I.hok.fresh (Nat.le_trans hge (Nat.le_of_lt hlt))
    refine h h'.objs.size c' _ _ (lay I1) (fun b o e n => ?_) (T1.ext fun b o e => ?_) nF0 upd_same ?_
    · exact (upd_ne (ne_of_none (hE b o e n) nF)).trans (hE b o e n)
    · exact (upd_ne (ne_of_none e nF)).trans e
    · exact (upd_ne (ne_of_none hcode1 nF)).trans hcode1
  | some cv =>
    obtain ⟨c', e, hco⟩ := ha pos cv hc
    subst e
    rw [hn] at hco
    refine PySem.W.kla_makeFunctionHit (mg := X.mg) (c := c) (P := P) (ps := ps) (closure_ok hfree) I.ok.glob (I.mod.glob.keeps I.bk) hcode (TB.code.keeps I.bk) hP' ht hc bP fun ctv h' tk hx hsz => ?_
    have I1 : Inv X pins σ H { s with heap := h', toks := tk } := I.kept hx
    have nF : H h'.objs.size = none := I1.hok.fresh (Nat.le_refl _)
    refine h h'.objs.size c' _ _ (lay I1) (fun b o e n => ?_) (hT.ext fun b o e => ?_) nF upd_same ?_
    · exact (upd_ne (ne_of_none e nF)).trans e
    · exact (upd_ne (ne_of_none e nF)).trans e
    · exact (upd_ne (ne_of_none hco nF)).trans hco
end
/-! ### the store goes on from what was -/
section
variable {K : PySem.W.Frag} {mg : Str → Option Value} {β : List Addr} {H H1 : Hp} {S : Sto}
theorem xt_extN (e : LamX.ExtN H H1) : Xt K β H β H1 :=
  ⟨⟨[], by simp⟩, fun a xs h => e a _ h (fun ps z => (by cases z)), fun a xs h => e a _ h (fun ps z => (by cases z)), fun a q h => e a _ h LamX.codeO_ne, fun a W cl c h => e a _ h (fun ps z => (by unfold FnQ at z; cases z))⟩
theorem rl_extN (r : Rl K mg β H S) (e : LamX.ExtN H H1) (t : NdefX.TabsN TabCfg.tabs H1) : Rl K mg β H1 S :=
 by
  refine ⟨r.len, fun n a o h1 h2 => ?_, r.uniq, t⟩
  · have ho := r.at' n a o h1 h2
    refine ho.ext (xt_extN e) (fun hw => ?_) fun u v q => e a _ q fun ps z => (by cases z)
    obtain ⟨u, q, q1, q2⟩ := ho.tracked hw
    rw [q]
    exact e a u q fun ps z => by
      subst z
      cases o with
      | lst ds => obtain ⟨xs, h3, _⟩ := ho; rw [h3] at q; cases q
      | rdl ds => cases hw
      | dk ds => obtain ⟨xs, h3, _⟩ := ho; rw [h3] at q; cases q
      | dt ds => obtain ⟨xs, h3, _⟩ := ho; rw [h3] at q; cases q
      | ins C fs => obtain ⟨Ca, dx, xs, _, h3, _⟩ := ho; rw [h3] at q; cases q
      | exn C fs => obtain ⟨Ca, od, _, h3, _⟩ := ho; rw [h3] at q; unfold exoH at q; cases q
      | fn i W ns => obtain ⟨cl, c, h3, _⟩ := ho; rw [h3] at q; unfold FnQ at q; cases q
      | cel d => obtain ⟨v, h3, _⟩ := ho; rw [h3] at q; unfold CellO at q; cases q
      | opn => cases hw
/-- a thing that is tracked already comes into the store -/
theorem Rl.adopt (r : Rl K mg β H S) {p : Addr} {b : Ob} (hn : ∀ (n : Nat) (o : Ob), β[n]? = some p → S[n]? = some o → o.wr = true → False) (hb : ObR K mg (β ++ [p]) H p b) : Rl K mg (β ++ [p]) H (S ++ [b]) := by
  have x : Xt K β H (β ++ [p]) H := ⟨⟨[p], rfl⟩, fun _ _ h => h, fun _ _ h => h, fun _ _ h => h, fun _ _ _ _ h => h⟩
  have cs : ∀ (k : Nat) (c : Addr) (w : Ob), (β ++ [p])[k]? = some c → (S ++ [b])[k]? = some w → (k < β.length ∧ β[k]? = some c ∧ S[k]? = some w) ∨ (k = β.length ∧ c = p ∧ w = b) := by
    intro k c w e1 e2
    by_cases hk : k < β.length
    · rw [List.getElem?_append_left hk] at e1
      rw [List.getElem?_append_left (by rw [← r.len]; exact hk)] at e2
      exact .inl ⟨hk, e1, e2⟩
    · have hl := (List.getElem?_eq_some_iff.mp e1).1
      rw [List.length_append, List.length_singleton] at hl
      have e : k = β.length := by omega
      subst e
      rw [List.getElem?_append_right (Nat.le_refl _), Nat.sub_self] at e1
      rw [r.len, List.getElem?_append_right (Nat.le_refl _), Nat.sub_self] at e2
      exact .inr ⟨rfl, (Option.some.inj e1).symm, (Option.some.inj e2).symm⟩
  refine ⟨by simp [r.len], fun n a u h1 h2 => ?_, fun n m a u v h1 h2 h3 h4 w1 w2 => ?_, r.tabs⟩
  · rcases cs n a u h1 h2 with ⟨_, a1, a2⟩ | ⟨_, a1, a2⟩
    · exact (r.at' n a u a1 a2).ext x (fun _ => rfl) fun _ _ h => h
    · rw [a1, a2]; exact hb
  · rcases cs n a u h1 h3 with ⟨_, a1, a2⟩ | ⟨a1, a2, a3⟩ <;> rcases cs m a v h2 h4 with ⟨_, b1, b2⟩ | ⟨b1, b2, b3⟩
    · exact r.uniq n m a u v a1 b1 a2 b2 w1 w2
    · subst b2; exact (hn n u a1 a2 w1).elim
    · subst a2; exact (hn m v b1 b2 w2).elim
    · rw [a1, b1]
end
/-! ### the cells of the frame come into the store -/
section
variable {X : Cx} {pins : List (Addr × Obj)} {σ : L2.St} {H : Hp} {s : Shared}
/-- y's cell is c, it holds v, which is d -/
structure CapV (X : Cx) (H : Hp) (s : Shared) (β : List Addr) (y : Str) (c : Addr) (v : V) (d : D) : Prop where
  look : X.env.cells.lookup y = some c
  none' : H c = none
  new : X.s_0.heap.objs.size ≤ c
  held : ∃ u, RelV v u ∧ s.heap.IsCell c (some u)
  is : Vd X.K X.mg β H v d
theorem add_cells (G0 : Hp) : ∀ (L : List (Addr × V × D)) (β : List Addr) (G : Hp) (S : Sto), Rl X.K X.mg β G S → Tk X G0 G s → (L.map (·.1)).Nodup → (∀ t ∈ L, G0 t.1 = none ∧ G t.1 = none ∧ X.s_0.heap.objs.size ≤ t.1 ∧ (∃ u, RelV t.2.1 u ∧ s.heap.IsCell t.1 (some u)) ∧ Vd X.K X.mg β G t.2.1 t.2.2) →
    ∃ G', Xt X.K β G (β ++ L.map (·.1)) G' ∧ Rl X.K X.mg (β ++ L.map (·.1)) G' (S ++ L.map fun t => Ob.cel t.2.2) ∧ Tk X G0 G' s ∧ ∀ b u, G b = some u → G' b = some u
  | [], β, G, S, r, t, _, _ => ⟨G, by simpa using Xt.refl, by simpa using r, t, fun _ _ h => h⟩
  | (c, v, d) :: L, β, G, S, r, t, nd, h => by
    rw [List.map_cons] at nd
    obtain ⟨n1, n2⟩ := List.nodup_cons.mp nd
    obtain ⟨g0, g1, g2, g3, g4⟩ := h _ (List.mem_cons_self ..)
    have g1 : G c = none := g1
    have x : Xt X.K β G (β ++ [c]) (upd G c (CellO c v)) := xt_new g1
    have r' : Rl X.K X.mg (β ++ [c]) (upd G c (CellO c v)) (S ++ [.cel d]) := r.new g1 ⟨v, upd_same, g4.ext x⟩
    have t' : Tk X G0 (upd G c (CellO c v)) s := fun b => by
      by_cases hb : b = c
      · subst hb
        exact .inr ⟨g0, g2, v, upd_same, g3⟩
      · rw [upd_ne hb]
        exact t b
    obtain ⟨G', x2, r2, t2, k2⟩ := add_cells G0 L (β ++ [c]) _ (S ++ [.cel d]) r' t' n2 fun q hq => by
      obtain ⟨q0, q1, q2, q3, q4⟩ := h q (List.mem_cons_of_mem _ hq)
      have ne : q.1 ≠ c := fun z => n1 (by rw [← z]; exact List.mem_map.mpr ⟨q, hq, rfl⟩)
      exact ⟨q0, by rw [upd_ne ne]; exact q1, q2, q3, q4.ext x⟩
    rw [List.append_assoc, List.singleton_append] at r2 x2
    rw [List.append_assoc, List.singleton_append] at r2
    exact ⟨G', x.trans x2, r2, t2, fun b u e => k2 b u (keep_new g1 b u e)⟩
end
/-! ### what a def hands back -/
def slotsD (ρ : Env') : List Nat → Option (List D)
  | [] => some []
  | j :: r => match ρ[j]?, slotsD ρ r with
    | some (some d), some ds => some (d :: ds)
    | _, _ => none
/-- a new function with the words W, which captures the slots js -/
def retFn (i : Nat) (U : NW) (js : List Nat) : Ms := fun ρ S => match slotsD ρ js with
  | some es => .fl (.rt (.ref (S.length + es.length))) (S ++ es.map Ob.cel ++ [.fn i U (List.range' S.length es.length)])
  | none => .stuck
/-- how the names that are captured lie in the maker -/
structure Mkr (X : Cx) (U : NW) (js : List Nat) : Prop where
  nd : U.fr.Nodup
  at_ : js.map (fun j => X.N[j]?) = U.fr.map some
  cell : ∀ y ∈ U.fr, X.env.scope.names.lookup y = some .cell
  fn : ∀ y ∈ U.fr, X.fn y = true
  mem : ∀ y ∈ U.fr, (y, NameKind.free) ∈ U.scope.names
  sub : ∀ y ∈ U.scope.names, y.2 = .free → y.1 ∈ U.fr
theorem slotsD_len {ρ : Env'} : ∀ {js : List Nat} {es : List D}, slotsD ρ js = some es → es.length = js.length
  | [], _, e => by cases e; rfl
  | j :: r, es, e => by
    unfold slotsD at e
    cases q : ρ[j]? with
    | none => rw [q] at e; cases e
    | some o =>
      rw [q] at e
      cases o with
      | none => cases e
      | some d =>
        cases q2 : slotsD ρ r with
        | none => rw [q2] at e; cases e
        | some ds => rw [q2] at e; cases e; exact congrArg (· + 1) (slotsD_len q2)
section
variable {X : Cx} {W : WX} {pins : List (Addr × Obj)} {σ : L2.St} {H : Hp} {s : Shared}
theorem caps_of {β : List Addr} {ρ : Env'} (I : Inv X pins σ H s) (en : En X.K X.mg β H ρ σ) : ∀ (js : List Nat) (ys : List Str) (es : List D), js.map (fun j => X.N[j]?) = ys.map some → (∀ y ∈ ys, X.env.scope.names.lookup y = some .cell) → (∀ y ∈ ys, X.fn y = true) → slotsD ρ js = some es →
    ∃ L : List (Str × Addr × V × D), L.map (·.1) = ys ∧ L.map (·.2.2.2) = es ∧ ∀ t ∈ L, CapV X H s β t.1 t.2.1 t.2.2.1 t.2.2.2
  | [], [], es, _, _, _, e => by cases e; exact ⟨[], rfl, rfl, fun t ht => by cases ht⟩
  | [], y :: ys, es, h, _, _, e => by cases h
  | j :: js, [], es, h, _, _, e => by cases h
  | j :: js, y :: ys, es, h, hc, hf, e => by
    rw [List.map_cons, List.map_cons] at h
    injection h with h1 h2
    unfold slotsD at e
    cases q : ρ[j]? with
    | none => rw [q] at e; cases e
    | some o =>
      rw [q] at e
      cases o with
      | none => cases e
      | some d =>
        cases q2 : slotsD ρ js with
        | none => rw [q2] at e; cases e
        | some ds =>
          rw [q2] at e
          cases e
          obtain ⟨L, l1, l2, l3⟩ := caps_of I en js ys ds h2 (fun z hz => hc z (List.mem_cons_of_mem _ hz)) (fun z hz => hf z (List.mem_cons_of_mem _ hz)) q2
          obtain ⟨v, hv, vd⟩ := en.at' j d q
          have hk := hc y (List.mem_cons_self ..)
          obtain ⟨m, _, hl⟩ := I.loc
          obtain ⟨u, ru, lk⟩ := hl j y v h1 hv (.inr (.inl hk))
          rcases lk with ⟨z, _⟩ | ⟨_, c, e1, e2⟩
          · have z : X.env.scope.names.lookup y = some .local := z
            rw [hk] at z
            cases z
          · refine ⟨(y, c, v, d) :: L, by rw [List.map_cons, l1], by rw [List.map_cons, l2], fun t ht => ?_⟩
            rcases List.mem_cons.mp ht with rfl | ht
            · exact ⟨e1, I.freeC y c e1, I.ok.cab y c (hf y (List.mem_cons_self ..)) e1, ⟨u, ru, e2⟩, vd⟩
            · exact l3 t ht
/-- the function at f is handed back -/
theorem ret_fn {β : List Addr} {S : Sto} {ρ : Env'} {U : NW} {js : List Nat} {i : Nat} {f c' : Addr} {D' : Ends} (M : Mkr X U js) (I : Inv X pins σ H s) (rl : Rl X.K X.mg β H S) (en : En X.K X.mg β H ρ σ) (hf : H f = some (FnQ f U (cloFrom X.env.cells U.scope.names []) c')) (hc : H c' = some (LamX.CodeO c' U.qual))
    (hn : ∀ (n : Nat) (o : Ob), β[n]? = some f → S[n]? = some o → o.wr = true → False) (q : PoS X.K X.mg W β H (retFn i U js ρ S) D') : ∃ H2, Tk X H H2 s ∧ D'.rt (.ref f) H2 := by
  unfold retFn at q
  cases e : slotsD ρ js with
  | none => rw [e] at q; exact q.elim
  | some es =>
    rw [e] at q
    obtain ⟨L, l1, l2, l3⟩ := caps_of I en js U.fr es M.at_ M.cell M.fn e
    have hfree : ∀ y ∈ U.scope.names, y.2 = .free → ∃ c, X.env.cells.lookup y.1 = some c := fun y hy e => I.ok.has _ (.inl (M.cell _ (M.sub y hy e)))
    have inj : ∀ t ∈ L, ∀ u ∈ L, t.2.1 = u.2.1 → t.1 = u.1 := fun t ht u hu z => I.ok.inj _ _ _ (l3 t ht).look (by rw [z]; exact (l3 u hu).look)
    have nd : ((L.map fun t => (t.2.1, t.2.2.1, t.2.2.2)).map (·.1)).Nodup := by
      have n0 : (L.map (·.1)).Nodup := by rw [l1]; exact M.nd
      rw [List.map_map]
      clear l1 l2 e
      induction L with
      | nil => exact List.nodup_nil
      | cons t L ih =>
        rw [List.map_cons] at n0 ⊢
        obtain ⟨m1, m2⟩ := List.nodup_cons.mp n0
        refine List.nodup_cons.mpr ⟨fun z => ?_, ih (fun u hu => l3 u (List.mem_cons_of_mem _ hu)) (fun a ha b hb => inj a (List.mem_cons_of_mem _ ha) b (List.mem_cons_of_mem _ hb)) m2⟩
        obtain ⟨u, hu, e⟩ := List.mem_map.mp z
        have := inj u (List.mem_cons_of_mem _ hu) t (List.mem_cons_self ..) e
        exact m1 (List.mem_map.mpr ⟨u, hu, this⟩)
    obtain ⟨G', x, r', tk, kp⟩ := add_cells (X := X) (s := s) H (L.map fun t => (t.2.1, t.2.2.1, t.2.2.2)) β H S rl .refl nd fun p hp => by
      obtain ⟨t, ht, rfl⟩ := List.mem_map.mp hp
      have c := l3 t ht
      exact ⟨c.none', c.none', c.new, c.held, c.is⟩
    have m1 : (L.map fun t => (t.2.1, t.2.2.1, t.2.2.2)).map (·.1) = L.map (·.2.1) := by rw [List.map_map]; rfl
    have m2 : (L.map fun t => (t.2.1, t.2.2.1, t.2.2.2)).map (fun t => Ob.cel t.2.2) = es.map Ob.cel := by rw [List.map_map, ← l2, List.map_map]; rfl
    rw [m1] at x r'
    rw [m2] at r'
    have hLf : L.length = U.fr.length := by rw [← l1, List.length_map]
    have hLe : es.length = L.length := by rw [← l2, List.length_map]
    have hf' := kp f _ hf
    have hc' := kp c' _ hc
    have nof : ∀ t ∈ L, t.2.1 ≠ f := fun t ht z => by
      have := (l3 t ht).none'
      rw [z, hf] at this
      cases this
    have r2 : Rl X.K X.mg (β ++ L.map (·.2.1) ++ [f]) G' (S ++ es.map Ob.cel ++ [.fn i U (List.range' S.length es.length)]) := by
      refine r'.adopt (fun n o h1 h2 hw => ?_) ⟨_, c', hf', hc', ?_⟩
      · by_cases hb : n < β.length
        · rw [List.getElem?_append_left hb] at h1
          rw [List.getElem?_append_left (by rw [← rl.len]; exact hb)] at h2
          exact hn n o h1 h2 hw
        · rw [List.getElem?_append_right (by omega), List.getElem?_map] at h1
          cases z : L[n - β.length]? with
          | none => rw [z] at h1; cases h1
          | some t => rw [z] at h1; exact nof t (List.mem_of_getElem? z) (Option.some.inj h1)
      · refine ⟨by rw [List.length_range', hLe, hLf], fun j y hy => ?_, fun y a ha => ?_, fun y z a h1 h2 => I.ok.inj y z a (NdefX.clo_cm hfree h1) (NdefX.clo_cm hfree h2)⟩
        · have hj : j < L.length := by
            rw [hLf]
            exact (List.getElem?_eq_some_iff.mp hy).1
          have hyL : L[j].1 = y := by
            have : (L.map (·.1))[j]? = some y := by rw [l1]; exact hy
            rw [List.getElem?_map, List.getElem?_eq_getElem hj] at this
            exact Option.some.inj this
          have cv := l3 L[j] (List.getElem_mem _)
          refine ⟨S.length + j, L[j].2.1, ?_, ?_, ?_⟩
          · rw [List.getElem?_range' (by omega)]
            simp
          · rw [List.append_assoc, List.getElem?_append_right (by rw [rl.len]; omega), rl.len, Nat.add_sub_cancel_left, List.getElem?_append_left (by rw [List.length_map]; exact hj), List.getElem?_map, List.getElem?_eq_getElem hj]
            rfl
          · rw [← hyL]
            exact NdefX.clo_has hfree (M.mem _ (by rw [hyL]; exact List.mem_of_getElem? hy)) cv.look
        · rcases cloFrom_mem (PySem.mem_of_lookup ha) with hm | ⟨h1, _⟩
          · cases hm
          · exact M.sub _ h1 rfl
    have x2 : Xt X.K β H (β ++ L.map (·.2.1) ++ [f]) G' := ⟨by obtain ⟨l, e⟩ := x.pre; exact ⟨L.map (·.2.1) ++ [f], by rw [List.append_assoc]⟩, x.tup, x.xd, x.cod, x.fnq⟩
    refine ⟨G', tk, q _ _ (.ref f) x2 r2 (.ref ?_)⟩
    rw [List.getElem?_append_right (by rw [List.length_append, List.length_map, rl.len, hLe]; omega), List.length_append, List.length_map, rl.len, hLe, Nat.sub_self]
    rfl
end
end Eng

set_option maxHeartbeats 2000000
/-! The engine, part 24: the statements that hand functions back. -/
namespace Eng
open PySem PySem.Spec PyProof.Rows L2
variable [TabCfg]
theorem En.hole {K : PySem.W.Frag} {mg : Str → Option Value} {β : List Addr} {H : Hp} {ρ : Env'} {σ : L2.St} (e : En K mg β H ρ σ) (i : Nat) (o : Option V) : En K mg β H (ρ.set i none) (σ.set i o) := by
  refine ⟨by rw [List.length_set, List.length_set]; exact e.len, fun j d q => ?_⟩
  by_cases hj : i = j
  · subst hj
    by_cases hl : i < ρ.length
    · rw [List.getElem?_set_self hl] at q
      cases q
    · rw [List.getElem?_eq_none (by rw [List.length_set]; omega)] at q
      cases q
  · rw [List.getElem?_set_ne hj] at q ⊢
    exact e.at' j d q
/-- the table of the maker -/
structure TabX (X : Cx) (nm : Nat → Nat → Str) : Prop where
  ex : ∃ c P, LamX.TabB X.base X.mg c P ∧ X.env.code = .ref c ∧ (P, nm) ∈ TabCfg.tabs ∧ ∀ p ∈ TabCfg.tabs, p.1 = P → p.2 = nm
section
variable {X : Cx} {W : WX} {params : Arguments} {scope : Scope} {lpos pos dpos rpos npos ipos : Pos} {i gi : Nat} {U : NW} {js : List Nat} {nm : Nat → Nat → Str}
theorem Mkr.hfree (M : Mkr X U js) (ok : X.Ok) : ∀ y ∈ U.scope.names, y.2 = .free → ∃ c, X.env.cells.lookup y.1 = some c := fun y hy e => ok.has _ (.inl (M.cell _ (M.sub y hy e)))
theorem fs_retlam {body : Expr} (t : TabX X nm) (hn : nm lpos.line lpos.col = X.env.qual ++ "<lambda>") (hU : U = ⟨"<lambda>", X.env.qual ++ "<lambda>", params, .expr body, scope, U.fr⟩) (M : Mkr X U js) (hdef : defaultsOf params X.env = ([], []) := by rfl) : FS X W (.Return (some (.Lambda params body scope lpos)) pos) (retFn i U js) := by
  obtain ⟨c, P, TB, hcode, hm, hu⟩ := t
  have hsc : U.scope = scope := by rw [hU]
  refine ⟨fun pins s σ H D I ⟨β, S, ρ, rl, en, q⟩ => wpAny_Return_some (lam_made (T := TabCfg.tabs) (fr := U.fr) I TB hcode hm hn hu (fun p hp => rl.tabs p hp) hdef (by rw [← hsc]; exact M.hfree I.ok) fun f c' H1 s' I1 eN T1 f0 f1 c1 => ?_)⟩
  rw [← hU, ← hsc] at f1
  have hq : U.qual = X.env.qual ++ "<lambda>" := by rw [hU]
  rw [← hq] at c1
  obtain ⟨H2, tk, q2⟩ := ret_fn M I1 (rl_extN rl eN T1) (en.ext (xt_extN eN)) f1 c1 (fun n o h1 h2 hw => by
    obtain ⟨u, z, _⟩ := (rl.at' n f o h1 h2).tracked hw
    rw [f0] at z
    cases z) (q.xt (xt_extN eN))
  exact ⟨.ref f, σ, H1, H2, I1, rfl, tk, q2⟩
theorem def_run {body : List Stmt} {name : Str} {pins : List (Addr × Obj)} {s : Shared} {σ : L2.St} {H : Hp} {Q : Flow → Shared → Prop} {rest : List Stmt} (t : TabX X nm) (hn : nm dpos.line dpos.col = X.env.qual ++ name) (hU : U = ⟨name, X.env.qual ++ name, params, .stmts body, scope, U.fr⟩) (M : Mkr X U js) (hd0 : params.defaults = []) (hk0 : params.kw_defaults = []) (ha : annTrees params none X.env = [])
    (hN : X.N.Nodup) (hi : X.N[gi]? = some name) (hx : Loc X.env.scope name) (hf : X.fn name = true ∨ X.env.scope.names.lookup name = some .local) (I : Inv X pins σ H s) (hT : NdefX.TabsN TabCfg.tabs H)
    (k : ∀ (f c' : Addr) (H' : Hp) (s' : Shared), Inv X pins (σ.set gi (some (.ref f))) H' s' → LamX.ExtN H H' → NdefX.TabsN TabCfg.tabs H' → H f = none → H' f = some (FnQ f U (cloFrom X.env.cells U.scope.names []) c') → H' c' = some (LamX.CodeO c' U.qual) → wpAny (model X.prog X.w) X.A (execs rest X.env) Q X.xe s') :
    wpAny (model X.prog X.w) X.A (execs (.FunctionDef name params body [] none [] scope none name dpos :: rest) X.env) Q X.xe s := by
  obtain ⟨c, P, TB, hcode, hm, hu⟩ := t
  have hsc : U.scope = scope := by rw [hU]
  have hfr : ∀ y ∈ scope.names, y.2 = .free → X.env.scope.names.lookup y.1 = some .cell ∨ X.env.scope.names.lookup y.1 = some .free := fun y hy e => .inl (M.cell _ (M.sub y (by rw [hsc]; exact hy) e))
  let Nx : L2.St → Hp → Prop := fun σ' H' => ∃ f c', σ' = σ.set gi (some (.ref f)) ∧ LamX.ExtN H H' ∧ NdefX.TabsN TabCfg.tabs H' ∧ H f = none ∧ H' f = some (NdefX.FnO f (U.nf body (cloFrom X.env.cells U.scope.names []) c')) ∧ H' c' = some (LamX.CodeO c' U.qual)
  have key : NdefX.tNdef TabCfg.tabs gi (fun c' => ⟨name, X.env.qual ++ name, params, body, scope, cloFrom X.env.cells scope.names [], c'⟩) { nx := Nx, rt := fun _ _ => False } σ H :=
    ⟨hT, fun f c' H1 e t1 f0 f1 c1 => (⟨f, c', rfl, e, t1, f0, by rw [hU]; exact f1, by rw [hU]; exact c1⟩ : Nx (σ.set gi (some (.ref f))) H1)⟩
  refine wpAny_execs_cons (thn ((NdefX.ps_ndef (X := X) (i := gi) (T := TabCfg.tabs) TB hcode hm hn hu hfr hd0 hk0 ha hN hi hx hf).run pins s σ H _ I key) fun fl s1 q => ?_)
  match fl, q with
  | .next, q =>
    obtain ⟨σ', H', J, f, c', rfl, e, t1, f0, f1, c1⟩ := q
    exact k f c' H' s1 J e t1 f0 (by rw [fnq_stmts (b := body) (by rw [hU])]; exact f1) c1
  | .ret u, ⟨_, _, _, _, _, q⟩ => exact q.elim
  | .brk, ⟨_, _, _, q⟩ => exact q.elim
  | .cont, ⟨_, _, _, q⟩ => exact q.elim
def sDefRet (gi i : Nat) (U : NW) (js : List Nat) : Ms := fun ρ S => retFn i U js (ρ.set gi none) S
theorem fss_defret {body : List Stmt} {name : Str} (t : TabX X nm) (hn : nm dpos.line dpos.col = X.env.qual ++ name) (hU : U = ⟨name, X.env.qual ++ name, params, .stmts body, scope, U.fr⟩) (M : Mkr X U js) (hN : X.N.Nodup) (hi : X.N[gi]? = some name := by rfl) (hx : Loc X.env.scope name := by first | exact .inl rfl | exact .inr rfl)
    (hf : X.fn name = true ∨ X.env.scope.names.lookup name = some .local := by first | exact .inl rfl | exact .inr rfl) (hv : Vis X.env.scope name := by first | exact .inl rfl | exact .inr (.inl rfl)) (hd0 : params.defaults = [] := by rfl) (hk0 : params.kw_defaults = [] := by rfl) (ha : annTrees params none X.env = [] := by rfl)
    (hd : (name == ("__debug__" : Str)) = false := by decide) (hcd : (name == ("__classdict__" : Str)) = false := by decide) :
    FSs X W [.FunctionDef name params body [] none [] scope none name dpos, .Return (some (.Name name npos)) rpos] (sDefRet gi i U js) := by
  refine ⟨fun pins s σ H D I ⟨β, S, ρ, rl, en, q⟩ => def_run t hn hU M hd0 hk0 ha hN hi hx hf I (fun p hp => rl.tabs p hp) fun f c' H1 s1 J eN T1 f0 f1 c1 => ?_⟩
  have hl : gi < σ.length := by rw [I.len]; exact (List.getElem?_eq_some_iff.mp hi).1
  have hs : (σ.set gi (some (V.ref f)))[gi]? = some (some (.ref f)) := List.getElem?_set_self hl
  refine wpAny_execs_cons (wpAny_Return_some (thn ((pe_var (pos := npos) (i := gi) hi hv hd hcd).run pins s1 _ H1 (fun v H2 => v = .ref f ∧ H2 = H1) J ⟨.ref f, hs, rfl, rfl⟩) fun u s2 ⟨v, H2, J2, rv, ev, eH⟩ => ?_))
  subst ev
  rw [eH] at J2
  obtain ⟨H3, tk, q2⟩ := ret_fn M J2 (rl_extN rl eN T1) ((en.hole gi (some (.ref f))).ext (xt_extN eN)) f1 c1 (fun n o h1 h2 hw => by
    obtain ⟨u, z, _⟩ := (rl.at' n f o h1 h2).tracked hw
    rw [f0] at z
    cases z) ((show PoS X.K X.mg W β H (retFn i U js (ρ.set gi none) S) D from q).xt (xt_extN eN))
  exact ⟨.ref f, _, H1, H3, J2, rv, tk, q2⟩
open Classical in
noncomputable def sDefIf (gi i : Nat) (U : NW) (js : List Nat) (mc : Mb) (a : Ms) : Ms := fun ρ S => (mc (ρ.set gi none) S).st (ρ.set gi none) fun k S1 => if S1 = S then (if k = true then (match a (ρ.set gi none) S1 with
  | .fl (.nx _) _ => .stuck
  | r => r) else retFn i U js (ρ.set gi none) S1) else .stuck
theorem fss_defif {body p : List Stmt} {name : Str} {c : Expr} {mc : Mb} {a : Ms} (t : TabX X nm) (hn : nm dpos.line dpos.col = X.env.qual ++ name) (hU : U = ⟨name, X.env.qual ++ name, params, .stmts body, scope, U.fr⟩) (M : Mkr X U js) (hc : MT X W c mc) (hp : FSs X W p a) (hN : X.N.Nodup) (hi : X.N[gi]? = some name := by rfl) (hx : Loc X.env.scope name := by first | exact .inl rfl | exact .inr rfl)
    (hf : X.fn name = true ∨ X.env.scope.names.lookup name = some .local := by first | exact .inl rfl | exact .inr rfl) (hv : Vis X.env.scope name := by first | exact .inl rfl | exact .inr (.inl rfl)) (hd0 : params.defaults = [] := by rfl) (hk0 : params.kw_defaults = [] := by rfl) (ha : annTrees params none X.env = [] := by rfl)
    (hd : (name == ("__debug__" : Str)) = false := by decide) (hcd : (name == ("__classdict__" : Str)) = false := by decide) :
    FSs X W [.FunctionDef name params body [] none [] scope none name dpos, .If c p [] ipos, .Return (some (.Name name npos)) rpos] (sDefIf gi i U js mc a) := by
  refine ⟨fun pins s σ H D I ⟨β, S, ρ, rl, en, q⟩ => def_run t hn hU M hd0 hk0 ha hN hi hx hf I (fun p hp => rl.tabs p hp) fun f c' H1 s1 J eN T1 f0 f1 c1 => ?_⟩
  have hl : gi < σ.length := by rw [I.len]; exact (List.getElem?_eq_some_iff.mp hi).1
  have hs : (σ.set gi (some (V.ref f)))[gi]? = some (some (.ref f)) := List.getElem?_set_self hl
  have rl1 := rl_extN rl eN T1
  have en1 := (en.hole gi (some (.ref f))).ext (xt_extN (β := β) (K := X.K) eN)
  have q1 := PoS.st ((show PoS X.K X.mg W β H (sDefIf gi i U js mc a ρ S) D from q).xt (xt_extN eN)) en1
  have hno : ∀ (n : Nat) (o : Ob), β[n]? = some f → S[n]? = some o → o.wr = true → False := fun n o h1 h2 hw => by
    obtain ⟨u, z, _⟩ := (rl.at' n f o h1 h2).tracked hw
    rw [f0] at z
    cases z
  have ret : ∀ {H2 : Hp} {s2 : Shared} {S2 : Sto}, Inv X pins (σ.set gi (some (.ref f))) H2 s2 → Rl X.K X.mg β H2 S2 → En X.K X.mg β H2 (ρ.set gi none) (σ.set gi (some (.ref f))) → H2 f = some (FnQ f U (cloFrom X.env.cells U.scope.names []) c') → H2 c' = some (LamX.CodeO c' U.qual) →
      (∀ (n : Nat) (o : Ob), β[n]? = some f → S2[n]? = some o → o.wr = true → False) → PoS X.K X.mg W β H2 (retFn i U js (ρ.set gi none) S2) D → wpAny (model X.prog X.w) X.A (execs [.Return (some (.Name name npos)) rpos] X.env) (FP X pins D) X.xe s2 := fun {H2 s2 S2} J2 rl2 en2 f2 c2 no2 q2 => by
    refine wpAny_execs_cons (wpAny_Return_some (thn ((pe_var (pos := npos) (i := gi) hi hv hd hcd).run pins s2 _ H2 (fun v H3 => v = .ref f ∧ H3 = H2) J2 ⟨.ref f, hs, rfl, rfl⟩) fun u s3 ⟨v, H3, J3, rv, ev, eH⟩ => ?_))
    subst ev
    rw [eH] at J3
    obtain ⟨H4, tk, q3⟩ := ret_fn M J3 rl2 en2 f2 c2 no2 q2
    exact ⟨.ref f, _, H2, H4, J3, rv, tk, q3⟩
  have step : tMT X.K X.mg W mc (σ.set gi (some (.ref f))) H1 fun k H2 => if k = true then tMS X.K X.mg W a { nx := fun _ _ => False, rt := D.rt } (σ.set gi (some (.ref f))) H2 else Rl X.K X.mg β H2 S ∧ En X.K X.mg β H2 (ρ.set gi none) (σ.set gi (some (.ref f))) ∧ Xt X.K β H1 β H2 ∧ PoS X.K X.mg W β H2 (retFn i U js (ρ.set gi none) S) D := by
    refine ⟨β, S, ρ.set gi none, rl1, en1, q1.mono fun k β2 S2 H2 x2 r2 q2 => ?_⟩
    by_cases hlen : S2 = S
    · rw [if_pos hlen] at q2
      subst hlen
      have hβ : β2 = β := by
        obtain ⟨l, e⟩ := x2.pre
        have hl2 := r2.len
        rw [← rl1.len, e, List.length_append] at hl2
        have : l = [] := List.length_eq_zero_iff.mp (by omega)
        rw [e, this, List.append_nil]
      subst hβ
      cases k with
      | true =>
        rw [if_pos rfl] at q2 ⊢
        refine ⟨_, S2, ρ.set gi none, r2, en1.ext x2, ?_⟩
        cases e : a (ρ.set gi none) S2 with
        | fl g S3 =>
          rw [e] at q2
          cases g with
          | nx ρ3 => exact q2.elim
          | rt d => exact q2
        | ex z ρ3 S3 => rw [e] at q2; exact q2
        | stuck => rw [e] at q2; exact q2.elim
      | false =>
        rw [if_neg (by decide)] at q2 ⊢
        exact ⟨r2, en1.ext x2, x2, q2⟩
    · rw [if_neg hlen] at q2
      exact q2.elim
  refine wpAny_execs_cons (wpAny_If (thn (hc.pt.run pins s1 _ H1 _ J step) fun k s2 ⟨H2, J2, q2⟩ => ?_))
  cases k with
  | true =>
    refine thn (hp.run pins s2 _ H2 _ J2 q2) fun fl s3 q3 => ?_
    match fl, q3 with
    | .next, ⟨_, _, _, q3⟩ => exact q3.elim
    | .ret u, q3 => exact q3
    | .brk, q3 => exact q3.elim
    | .cont, q3 => exact q3.elim
  | false =>
    obtain ⟨r2, e2, x2, q2⟩ := q2
    exact wpAny_execs_nil (ret J2 r2 e2 (x2.fnq _ _ _ _ f1) (x2.cod _ _ c1) hno q2)
end
end Eng

set_option maxHeartbeats 2000000
/-! The engine, part 25: the law's end where defs give back functions. -/
namespace Eng
open PySem PySem.Spec PyProof.Rows L2
/-- what is asked of the law's own def, the tables empty -/
def spT [TabCfg] (K : PySem.W.Frag) : Sp := fun vs H Q _ => ∃ (a : Addr) (ns : List Int), vs = [.ref a] ∧ ns.length ≤ 63 ∧ SqL K H a (ns.map V.int) ∧ (∀ p ∈ TabCfg.tabs, H p.1 = some (.tbl #[])) ∧ ∀ H', Q (.bl true) H'
section
variable {H H' : Hp} {a : Addr} {xs : List V} {ob : Obj} {h h' B : Heap} {fs : List Addr} {P : Program} {w : World}
theorem un_frz (hl : H a = some (.lst xs)) (u : Un fs [] (upd H a (.frz ob (.lst xs))) H' h h') : Un fs [] H H' h h' := by
  have out : ∀ b o, H b = some o → (∀ ys, o ≠ .lst ys) → upd H a (.frz ob (.lst xs)) b = some o := fun b o e n => by
    rw [upd_ne (fun z => n xs (by rw [z, hl] at e; exact (Option.some.inj e).symm))]; exact e
  have none' : ∀ b, H b = none → upd H a (.frz ob (.lst xs)) b = none := fun b e => by
    rw [upd_ne (fun z => by rw [z, hl] at e; cases e)]; exact e
  exact ⟨fun b o e n => u.keep b o e (none' b n), fun b o e n => u.slot b o e (none' b n), fun b o e n => u.free b o e (none' b n), u.there,
    fun b ys e => u.tups b ys (out b _ e (fun _ z => nomatch z)), fun b o ys e => u.frzs b o ys (out b _ e (fun _ z => nomatch z)), fun b ps e => u.tbls b ps (out b _ e (fun _ z => nomatch z))⟩
end
theorem law_endT [TabCfg] {P : Program} {w : World} {K : PySem.W.Frag} {mg : Str → Option Value} {base : Heap} {k : Nat} {f : Addr} {fd : FuncData} {ps : List Str} {m : List D → Sto → R D} (F : FnOk P w K mg base (L2.CX P w) k f fd ps (spM K mg 1 m))
    (h : ∀ ns : List Int, ns.length ≤ 63 → ∃ S, m [.ref 0] [.rdl (ns.map D.int)] = .ok (.bl true) S) (plen : ps.length = 1 := by rfl) : FnOk P w K mg base (L2.CX P w) k f fd ps (spT K) := by
  refine ⟨fun vs H Q E ⟨a, ns, e, _⟩ => by rw [e, plen]; rfl, fun A outer s H args us vs Q E hr e0 hb r ⟨a, ns, e, hl, hS, hT, q⟩ => ?_⟩
  subst e
  have main : ∀ G : Hp, Env0 P w K mg base A outer s G → (∀ p ∈ TabCfg.tabs, G p.1 = some (.tbl #[])) → ((∃ o, G a = some (.frz o (.lst (ns.map V.int)))) ∨ ∃ (o : Obj) (its : Array Value) (n : Nat), K.lookup a = some o ∧ o.cls = .type "list" ∧ o.dict = none ∧ o.data = .seq its n ∧ its.size ≤ sizeLine ∧ Vals (ns.map V.int) its.toList) →
      codeAny (model P w) A (.call (.ref f) args) (CR (L2.CX P w) outer P w G s (fun v _ => v = .bl true) fun _ _ _ => False) s := by
    intro G g0 gT gS
    refine F.run A outer s G args us [.ref a] _ _ hr g0 hb r ⟨rfl, [a], [.rdl (ns.map D.int)], [.ref 0], ⟨rfl, fun n b o h1 h2 => ?_, fun n m b o u h1 h2 h3 h4 w1 w2 => ?_, fun p hp => NdefX.TabN.nil (gT p hp)⟩, .cons (.ref rfl) .nil, ?_⟩
    · match n, h1, h2 with
      | 0, h1, h2 =>
        cases h1
        cases h2
        exact ⟨_, gS, vds_ints ns⟩
      | n + 1, h1, h2 => simp at h1
    · match n, m, h1, h2 with
      | 0, 0, _, _ => rfl
      | n + 1, _, h1, _ => simp at h1
      | 0, m + 1, _, h2 => simp at h2
    · obtain ⟨S, e⟩ := h ns hl
      rw [e]
      intro β' H' v _ _ hv
      cases hv
      rfl
  have fin : ∀ G : Hp, (∀ H' h', Un (frs outer) [] G H' s.heap h' → Un (frs outer) [] H H' s.heap h') → codeAny (model P w) A (.call (.ref f) args) (CR (L2.CX P w) outer P w G s (fun v _ => v = .bl true) fun _ _ _ => False) s →
      codeAny (model P w) A (.call (.ref f) args) (CR (L2.CX P w) outer P w H s Q E) s := fun G un c => codeAny_mono c fun res s' back => by
    match res, back with
    | .error y, back =>
      obtain ⟨_, _, _, _, _, _, _, _, _, _, _, _, z⟩ := back
      exact z.elim
    | .ok (.ret u), back =>
      obtain ⟨v, H', os, bare, u1, ok', rv, ev⟩ := back
      subst ev
      exact ⟨_, H', os, bare, un _ _ u1, ok', rv, q H'⟩
    | .ok .next, back => exact back.elim
    | .ok .brk, back => exact back.elim
    | .ok .cont, back => exact back.elim
  rcases hS with (h1 | h1) | h1
  · obtain ⟨o, ho⟩ : ∃ o, s.heap.get? a = some o := by
      obtain ⟨_, its, n, _, e⟩ := (show ObjOk P w H s.heap a (.lst (ns.map V.int)) from e0.hok a _ h1)
      exact ⟨_, e⟩
    refine fin _ (fun H' h' u => un_frz (ob := o) h1 u) (main (upd H a (.frz o (.lst (ns.map V.int)))) ?_ (fun p hp => ?_) (.inl ⟨o, upd_same⟩))
    · have none' : ∀ b, H b = none → upd H a (.frz o (.lst (ns.map V.int))) b = none := fun b e => by
        rw [upd_ne (fun z => by rw [z, h1] at e; cases e)]; exact e
      have out : ∀ b u, H b = some u → (∀ ys, u ≠ .lst ys) → upd H a (.frz o (.lst (ns.map V.int))) b = some u := fun b u e n => by
        rw [upd_ne (fun z => n _ (by rw [z, h1] at e; exact (Option.some.inj e).symm))]; exact e
      refine ⟨e0.frames, e0.mod, fun b o hb => ⟨(e0.bs b o hb).1, none' b (e0.bs b o hb).2⟩, e0.bsz, e0.funs, fun b hb => none' b (e0.frf b hb), fun b u e => ?_, e0.bare⟩
      by_cases hba : b = a
      · subst hba
        rw [upd_same] at e
        cases e
        exact ⟨ho, (e0.hok b _ h1).stay (fun _ _ _ q => q) (fun c q => out c _ q fun _ z => nomatch z) fun c ys q => out c _ q fun _ z => nomatch z⟩
      · rw [upd_ne hba] at e
        exact (e0.hok b u e).stay (fun _ _ _ q => q) (fun c q => out c _ q fun _ z => nomatch z) fun c ys q => out c _ q fun _ z => nomatch z
    · rw [upd_ne (fun z => by
        have := hT p hp
        rw [z, h1] at this
        cases this)]
      exact hT p hp
  · exact fin H (fun _ _ u => u) (main H e0 hT (.inl h1))
  · exact fin H (fun _ _ u => u) (main H e0 hT (.inr h1))
/-- the walk, the makers' tables empty at its start -/
theorem walk_engT {l : PySem.W.OpenLaw} {k : Nat} {q : Program} {loose : List Str} {XP : (Str → Option Value) → Heap → Prop} {YP : World → Heap → Prop} {d : DefRec} {K : Params → PySem.W.Frag} {x : Str} (mks : List Str)
    (hn : l.most = some 63) (hdf : d.params.defaults = []) (hr : Room k callerA) (hrec : ∀ y ∈ mks, ((recsOf q).any fun e => e.name == y) = true) (hY : ∀ (w : World) (h : Heap), YP w h → (K w.params).In h)
    (F : ∀ (w : World) (mg : Str → Option Value) (fa : Addr) (h : Heap), (K w.params).In h → h.Ns mainGlobals mg → mg d.name = some (.ref fa) → (∀ y ∈ mks, ∀ f, mg y = some (.ref f) → LamX.OwnTab (K w.params) f h) → LamX.LawAtS l w (K w.params) (L2.CX l.prog w) k 63 x mg fa h) :
    PySem.W.WalkO q loose XP YP l.row.toRowW d [] (fun f vs => PySem.call f vs) := by
  refine Att.attach_callB hn hdf fun w s₀ s₁ mg mb fa o pm cd doc a vs ns G Y ho hd hcd hmg hobj hints hlen hbits hg => ?_
  have kin := hY w _ Y
  have own : ∀ y ∈ mks, ∀ f, mg y = some (.ref f) → LamX.OwnTab (K w.params) f s₁.heap := fun y hy f hf c P o1 fd1 e dd vs1 sl k1 k2 k3 k4 k5 => by
    obtain ⟨r, r1, r2⟩ := List.any_eq_true.mp (hrec y hy)
    have t := G.T.tab r r1
    rw [beq_iff_eq.mp r2, hf] at t
    obtain ⟨a', o', fd', c', P', g1, g2, g3, g4, _, g6⟩ := t
    cases g1
    rw [kin _ _ k1] at g2
    cases g2
    rw [k2] at g3
    cases g3
    rw [k3] at g4
    cases g4
    obtain ⟨⟨oc, vc, z1, _, z3, z4⟩, z⟩ := g6
    rw [kin _ _ k4] at z1
    cases z1
    cases z3
    rw [k5] at z4
    cases z4
    exact z
  obtain ⟨fd, cs, sp, hT, nT, C, hb, hsp, hF⟩ := F w mg fa _ kin G.T.g hmg own
  exact LamX.law_callTs kin G.T.g G.T.b G.T.builtins G.T.nolimit hg hT nT C G.T.bmain hobj hints (Nat.le_trans hlen (by decide)) hr hF hb (fun H hH hS => hsp H a ns hlen hbits hH hS) fun H e s' c => by
    obtain ⟨_, _, _, _, _, _, _, _, _, _, _, _, z⟩ := c
    exact z
end Eng

set_option maxHeartbeats 2000000
/-! The engine, part 26: setdefault; rows for simp about functions. -/
namespace Eng
open PySem PySem.Spec PyProof.Rows L2
section
variable {X : Cx} {pins : List (Addr × Obj)} {σ : L2.St} {H : Hp} {s : Shared} {a b : Addr} {r : Value} {d : V} {A : Around} {E : Value → Shared → Prop}
/-- d.setdefault(t, x), t a tuple -/
theorem t_setd {kvs : List (List Key × V)} {k : List Key} {Q : Value → Shared → Prop} (hu : A.units + 1 < cLine) (I : Inv X pins σ H s) (e : H a = some (.dT kvs)) (eb : H b = some (.tup (k.map kV))) (rd : RelV d r) (hl : kvs.length < sizeLine)
    (h1 : ∀ v, valV kvs k = some v → ∀ (w' : Value) (s' : Shared), Inv X pins σ H s' → RelV v w' → Q w' s') (h2 : valV kvs k = none → ∀ s' : Shared, Inv X pins σ (upd H a (.dT (putK kvs k d))) s' → Q r s') :
    wpAny (model X.prog X.w) A (call (.builtin "dict.setdefault") [.ref a, .ref b, r]) Q E s := by
  obtain ⟨z, hd, xs, rel, dd⟩ := dt_of I.hok e
  have hval := rel.val k
  refine call_setdefault_heap (hsz := by rw [← Paired.length rel]; exact z) (tupleKind_room_in1 hu) (key_of I.hok eb) hd dd (fun p hp => ?_) fun hn h' dd' hs => ?_
  · rw [hp] at hval
    cases q : valV kvs k with
    | none => rw [q] at hval; exact (show False from hval).elim
    | some v => rw [q] at hval; exact h1 v q _ _ (I.tok _) hval
  · rw [hn] at hval
    cases q : valV kvs k with
    | some v => rw [q] at hval; exact (show False from hval).elim
    | none =>
      have hl2 : (putK kvs k d).length ≤ sizeLine := Nat.le_trans (length_putK kvs k d) hl
      obtain ⟨o, es, ep, ho, g2, g3, g4, _, g5⟩ := dd'
      refine h2 q _ (d_write I (by rw [e]; exact True.intro) hs ⟨o, ho⟩ ⟨hl2, hd, _, (rel.put k eb rd).keeps fun c ys ec => ?_, o, es, ep, ho, g2, g3, g4, g5⟩)
      rw [upd_ne (ne_of ec e (fun z => nomatch z))]
      exact ec
end
def setdD (n : Nat) (y z : D) (S : Sto) : R D := match S[n]? with
  | some (.dk kvs) => match keyD y with
    | some k => if kvs.length < sizeLine then (match valD kvs k with
      | some d => .ok d S
      | none => .ok z (S.set n (.dk (putD kvs k z)))) else .stuck
    | none => .stuck
  | some (.dt kvs) => match keyT y with
    | some k => if kvs.length < sizeLine then (match valD kvs k with
      | some d => .ok d S
      | none => .ok z (S.set n (.dt (putD kvs k z)))) else .stuck
    | none => .stuck
  | _ => .stuck
def mSetd (mo mk mv : Mx) : Mx := fun ρ S => (mo ρ S).bind fun o S1 => match dictAt o S1 with
  | some n => (mk ρ S1).bind fun y S2 => (mv ρ S2).bind fun z S3 => setdD n y z S3
  | none => .stuck
section
variable [TabCfg] {X : Cx} {W : WX} {pos apos : Pos} {o e f : Expr} {mo me mf : Mx}
theorem setdD_run {pins : List (Addr × Obj)} {σ : L2.St} {H : Hp} {s : Shared} {β : List Addr} {S : Sto} {n : Nat} {a : Addr} {y z : D} {vy vz : V} {u r : Value} {Q : VK} (hu : X.A.units + 1 < cLine) (I : Inv X pins σ H s) (rl : Rl X.K X.mg β H S) (h : β[n]? = some a) (hy : Vd X.K X.mg β H vy y) (hz : Vd X.K X.mg β H vz z) (ry : RelV vy u) (rz : RelV vz r)
    (q : Po X.K X.mg W σ β H (setdD n y z S) fun x β' _ H' => ∀ v, Vd X.K X.mg β' H' v x → Q v H') : wpAny (model X.prog X.w) X.A (call (.builtin "dict.setdefault") [.ref a, u, r]) (EP X pins σ Q) X.xe s := by
  unfold setdD at q
  cases e1 : S[n]? with
  | none => rw [e1] at q; exact q.elim
  | some ob =>
    rw [e1] at q
    have ho := rl.at' n a ob h e1
    cases ob with
    | dk kvs =>
      dsimp only at q
      obtain ⟨xs, g1, g2⟩ := ho
      cases e2 : keyD y with
      | none => rw [e2] at q; exact q.elim
      | some k =>
        rw [e2] at q
        dsimp only at q
        by_cases hl : kvs.length < sizeLine
        · rw [if_pos hl] at q
          have ek := keyD_ok hy e2
          subst ek
          have hval := g2.val k
          refine d_setd I g1 ry rz (by rw [g2.length]; exact hl) (fun v hv w' s' J rv => ?_) fun hn w' s' J rv => ?_
          · rw [hv] at hval
            cases e3 : valD kvs k with
            | none => rw [e3] at hval; exact hval.elim
            | some d =>
              rw [e3] at q hval
              exact ⟨v, H, J, rv, q β H .refl rl v hval⟩
          · rw [hn] at hval
            cases e3 : valD kvs k with
            | some d => rw [e3] at hval; exact hval.elim
            | none =>
              rw [e3] at q
              obtain ⟨r', x'⟩ := rl.write (o := .dK (putK xs k vz)) (b' := .dk (putD kvs k z)) h e1 rfl rfl fun x => ⟨_, upd_same, (g2.put k hz).ext x⟩
              exact ⟨vz, _, J, rv, q β _ x' r' vz (hz.ext x')⟩
        · rw [if_neg hl] at q; exact q.elim
    | dt kvs =>
      dsimp only at q
      obtain ⟨xs, g1, g2⟩ := ho
      cases e2 : keyT y with
      | none => rw [e2] at q; exact q.elim
      | some k =>
        rw [e2] at q
        dsimp only at q
        by_cases hl : kvs.length < sizeLine
        · rw [if_pos hl] at q
          obtain ⟨b, rfl, eb⟩ := keyT_ok hy e2
          obtain rfl : u = Value.ref b := ry
          have hval := g2.val k
          refine t_setd hu I g1 eb rz (by rw [g2.length]; exact hl) (fun v hv w' s' J rv => ?_) fun hn s' J => ?_
          · rw [hv] at hval
            cases e3 : valD kvs k with
            | none => rw [e3] at hval; exact hval.elim
            | some d =>
              rw [e3] at q hval
              exact ⟨v, H, J, rv, q β H .refl rl v hval⟩
          · rw [hn] at hval
            cases e3 : valD kvs k with
            | some d => rw [e3] at hval; exact hval.elim
            | none =>
              rw [e3] at q
              obtain ⟨r', x'⟩ := rl.write (o := .dT (putK xs k vz)) (b' := .dt (putD kvs k z)) h e1 rfl rfl fun x => ⟨_, upd_same, (g2.put k hz).ext x⟩
              exact ⟨vz, _, J, rz, q β _ x' r' vz (hz.ext x')⟩
        · rw [if_neg hl] at q; exact q.elim
    | _ => exact q.elim
theorem me_setd (hu : X.A.units + 1 < cLine) (ho : ME X W o mo) (he : ME X W e me) (hf : ME X W f mf) (m : M2 X o "setdefault" apos e f pos := by exact ⟨rfl, rfl, rfl, rfl⟩) : ME X W (.Call (.Attribute o "setdefault" apos) [e, f] [] pos) (mSetd mo me mf) := by
  refine ⟨⟨fun pins s σ H Q I ⟨β, S, ρ, rl, en, q⟩ => ?_⟩⟩
  have s1 : tM X.K X.mg W mo σ H fun x H1 => ∃ a, x = .ref a ∧ IsD H1 a ∧ tM X.K X.mg W me σ H1 fun y H2 => tM X.K X.mg W mf σ H2 fun z H3 => ∃ β3 S3 n y' z', Rl X.K X.mg β3 H3 S3 ∧ β3[n]? = some a ∧ Vd X.K X.mg β3 H3 y y' ∧ Vd X.K X.mg β3 H3 z z' ∧ Po X.K X.mg W σ β3 H3 (setdD n y' z' S3) fun x β' _ H' => ∀ v, Vd X.K X.mg β' H' v x → Q v H' := by
    refine ⟨β, S, ρ, rl, en, (Po.bind q).mono fun d β1 S1 H1 x1 r1 q1 v hv => ?_⟩
    cases e1 : dictAt d S1 with
    | none => rw [e1] at q1; exact q1.elim
    | some n =>
      rw [e1] at q1
      obtain ⟨a, rfl, h1, h2⟩ := dictAt_ok r1 hv e1
      exact ⟨a, rfl, h2, β1, S1, ρ, r1, en.ext x1, (Po.bind q1).mono fun y' β2 S2 H2 x2 r2 q2 y hy => ⟨β2, S2, ρ, r2, en.ext (x1.trans x2), (Po.bind q2).mono fun z' β3 S3 H3 x3 r3 q3 z hz => ⟨β3, S3, n, y', z', r3, x3.at' (x2.at' h1), hy.ext x3, hz, q3⟩⟩⟩
  refine wpAny_Call_method m.base m.few m.line PySem.F.plainAttrs_dict PySem.F.slot_dict_setdefault PySem.F.type_dict_setdefault (thn (ho.pe.run pins s σ H _ I s1) fun u s1 ⟨x, H1, I1, rx, a, ex, dd, q1⟩ => ?_)
  subst ex
  obtain rfl : u = Value.ref a := rx
  obtain ⟨t1, t2, _⟩ := isD_at I1 dd
  refine ⟨t1, t2, ?_⟩
  rw [m.trees]
  exact Calls.callWith_builtin rfl (Calls.evalArgs_plain (Calls.spliced_cons (thn (he.pe.run pins s1 σ H1 _ I1 q1) fun iv s2 ⟨y, H2, I2, ry, q2⟩ =>
    Calls.spliced_cons (thn (hf.pe.run pins s2 σ H2 _ I2 q2) fun fv s3 ⟨z, H3, I3, rz, β3, S3, n, y', z', r3, g1, g2, g3, q3⟩ => Calls.spliced_nil (setdD_run hu I3 r3 g1 g2 g3 ry rz q3)))))
end
/-! rows for simp -/
section
variable {ρ : Env'} {S S' : Sto} {mo mk mv : Mx} {ma : Ma} {n i gi : Nat} {d : D} {ds es : List D} {tab : VTab} {U : NW} {js ns : List Nat} {mc : Mb} {a : Ms}
@[simp] theorem ev_setd : mSetd mo mk mv ρ S = (mo ρ S).bind fun o S1 => match dictAt o S1 with
  | some n => (mk ρ S1).bind fun y S2 => (mv ρ S2).bind fun z S3 => setdD n y z S3
  | none => .stuck := rfl
@[simp] theorem ev_callv : mCallV tab mo ma ρ S = (mo ρ S).bind fun o S1 => if isFn o S1 = true then (ma ρ S1).bind fun ds S2 => callV tab o ds S2 else .stuck := rfl
theorem isFn_ref (h : S[n]? = some (.fn i U ns)) : isFn (.ref n) S = true := by
  unfold isFn
  dsimp only
  rw [h]
theorem callV_ref {m : List D → Sto → R D} (h : S[n]? = some (.fn i U ns)) (h2 : tab[i]? = some (U, m)) : callV tab (.ref n) ds S = runV m ns ds S := by
  unfold callV
  dsimp only
  rw [h]
  dsimp only
  rw [h2]
  dsimp only
  rw [if_pos rfl]
theorem runV_ok {m : List D → Sto → R D} (h : celsD S ns = some es) (h2 : m (ds ++ es) (openD S ns) = .ok d S') : runV m ns ds S = .ok d (closeC S S' ns) := by
  unfold runV
  rw [h]
  dsimp only
  rw [h2]
theorem runV_ex {m : List D → Sto → R D} {x : Exn} (h : celsD S ns = some es) (h2 : m (ds ++ es) (openD S ns) = .ex x S') : runV m ns ds S = .ex x (closeC S S' ns) := by
  unfold runV
  rw [h]
  dsimp only
  rw [h2]
@[simp] theorem celsD_nil : celsD S [] = some [] := rfl
@[simp] theorem celsD_cons {r : List Nat} : celsD S (n :: r) = match S[n]?, celsD S r with
    | some (.cel d), some ds => some (d :: ds)
    | _, _ => none := rfl
@[simp] theorem openD_nil : openD S [] = S := rfl
@[simp] theorem openD_cons {r : List Nat} : openD S (n :: r) = openD (S.set n .opn) r := rfl
@[simp] theorem closeC_nil : closeC S S' [] = S' := rfl
@[simp] theorem closeC_cons {r : List Nat} : closeC S S' (n :: r) = closeC S (match S[n]? with
    | some o => S'.set n o
    | none => S') r := rfl
@[simp] theorem slotsD_nil : slotsD ρ [] = some [] := rfl
@[simp] theorem slotsD_cons {r : List Nat} : slotsD ρ (n :: r) = match ρ[n]?, slotsD ρ r with
    | some (some d), some ds => some (d :: ds)
    | _, _ => none := rfl
@[simp] theorem ev_retfn : retFn i U js ρ S = match slotsD ρ js with
  | some es => .fl (.rt (.ref (S.length + es.length))) (S ++ es.map Ob.cel ++ [.fn i U (List.range' S.length es.length)])
  | none => .stuck := rfl
@[simp] theorem ev_defret : sDefRet gi i U js ρ S = retFn i U js (ρ.set gi none) S := rfl
theorem ev_defif {k : Bool} (h : mc (ρ.set gi none) S = .ok k S) : sDefIf gi i U js mc a ρ S = if k = true then (match a (ρ.set gi none) S with
  | .fl (.nx _) _ => .stuck
  | r => r) else retFn i U js (ρ.set gi none) S := by
  unfold sDefIf
  rw [h]
  exact if_pos rfl
end
end Eng

/-! The engine, part 27: looks at the texts of makers, the trees' parts. -/
namespace Eng
open PySem PySem.Spec PyProof.Rows L2
variable [TabCfg]
def mkrB (N : List Str) (sc : Scope) (U : NW) (js : List Nat) : Bool :=
  decide U.fr.Nodup && decide (js.map (fun j => N[j]?) = U.fr.map some) && U.fr.all (fun y => decide (sc.names.lookup y = some .cell)) && U.fr.all (fun y => decide ((y, NameKind.free) ∈ U.scope.names)) && U.scope.names.all fun y => !decide (y.2 = .free) || decide (y.1 ∈ U.fr)
theorem mkr_by {X : Cx} {U : NW} {js : List Nat} (h : mkrB X.N X.env.scope U js = true) (hf : ∀ y, X.fn y = true) : Mkr X U js := by
  unfold mkrB at h
  simp only [Bool.and_eq_true, Bool.or_eq_true, Bool.not_eq_true', decide_eq_true_eq, decide_eq_false_iff_not, List.all_eq_true] at h
  obtain ⟨⟨⟨⟨h1, h2⟩, h3⟩, h4⟩, h5⟩ := h
  exact ⟨h1, h2, h3, fun y _ => hf y, h4, fun y hy e => (h5 y hy).elim (fun z => absurd e z) id⟩
/-- a maker's text, with the place of its code object -/
def MakerAt (K : PySem.W.Frag) (x qual : Str) (st : Stmt) (f c : Addr) (fd : FuncData) : Prop := ∃ (oc kV doc pm ct : Value) (od an : Option Addr) (osl : Array (Option Value)),
  fd = PySem.W.fnOf x qual (defArgs st) (defBody st) (defScope st) .none kV doc pm an (.ref c) ct ∧ K.lookup f = some ⟨oc, od, .func fd, osl⟩ ∧ PySem.W.codeIn K (.ref c) qual = true
theorem maker_ok2 {P : Program} {w : World} {K : PySem.W.Frag} {mg : Str → Option Value} {base : Heap} {x qual : Str} {st : Stmt} {f c : Addr} {fd : FuncData} {N ps : List Str} {k : Nat} {b : Ms} (L : MakerAt K x qual st f c fd) (S : FnScope N ps (defScope st))
    (h : ∀ (A : Around) (outer : List Env) (s : Shared) (H : Hp) (E : XK), Room k (A.deeper (envOfC qual (defScope st) s.heap.objs.size f (.ref c))) →
      FSs (cxOf (L2.CX P w) P w K mg base N qual (defScope st) f (.ref c) A outer s H E) (fun cls d _ H => E cls d H) (defBody st) b) : FnOk P w K mg base (L2.CX P w) (k + 1) f fd ps (spM K mg ps.length (mDef N.length b)) := by
  obtain ⟨oc, kV, doc, pm, ct, od, an, osl, rfl, lk, hcd⟩ := L
  exact maker_ok lk hcd S h
theorem tabx {X : Cx} {nm : Nat → Nat → Str} {c P : Addr} (t : LamX.TabB X.base X.mg c P) (h : X.env.code = .ref c) (b : (P, nm) ∈ TabCfg.tabs ∧ ∀ p ∈ TabCfg.tabs, p.1 = P → p.2 = nm) : TabX X nm := ⟨c, P, t, h, b.1, b.2⟩
/-! the parts of the trees -/
def noneS : Stmt := .Pass ⟨0, 0, 0, 0⟩
def ifS (s : Stmt) (j : Nat) : Stmt := match s with
  | .If _ b _ _ => b.getD j noneS
  | s => s
def lamA (s : Stmt) : Arguments := match s with
  | .Return (some (.Lambda p _ _ _)) _ => p
  | _ => defArgs noneS
def lamB (s : Stmt) : Expr := match s with
  | .Return (some (.Lambda _ b _ _)) _ => b
  | _ => .Constant .none 0 ⟨0, 0, 0, 0⟩
def lamS (s : Stmt) : Scope := match s with
  | .Return (some (.Lambda _ _ sc _)) _ => sc
  | _ => defScope noneS
def posS (s : Stmt) : Nat × Nat := match s with
  | .Return (some (.Lambda _ _ _ p)) _ => (p.line, p.col)
  | .FunctionDef _ _ _ _ _ _ _ _ _ p => (p.line, p.col)
  | _ => (0, 0)
/-- a table that tells one name; one that tells another one at a place -/
def nm1 (q : Str) : Nat → Nat → Str := fun _ _ => q
def nm2 (s : Stmt) (q r : Str) : Nat → Nat → Str := fun l c => if (l, c) = posS s then q else r
theorem own_at {K : PySem.W.Frag} {h : Heap} {f c P : Addr} {o : Obj} {fd : FuncData} {e : Value} {dd : Option Addr} {vs : Array Value} {sl : Array (Option Value)} (t : LamX.OwnTab K f h) (k1 : K.lookup f = some o) (k2 : o.data = .func fd) (k3 : fd.code = .ref c) (k4 : K.lookup c = some ⟨e, dd, .fields vs, sl⟩) (k5 : vs[11]? = some (.ref P)) :
    h.get? P = some { cls := .none, data := .fields #[] } := t c P o fd e dd vs sl k1 k2 k3 k4 k5
end Eng

set_option maxHeartbeats 2000000
/-! The engine, part 28: tuples and texts times whole numbers. -/
namespace Eng
open PySem PySem.Spec PyProof.Rows L2
theorem tuple_mul1 (l : Addr) (items : Array Value) (n : Nat) (dd : Option Addr) (sl : Array (Option Value)) (u : Tok) :
    Meets (Builtin.«tuple.__mul__» ⟨[.ref l, .int 1 u], []⟩) (fun _ R s => s.heap.get? l = some { cls := .type "tuple", dict := dd, data := .seq items n, slots := sl } ∧ R (.ok (.ret (Value.ref l))) s) :=
  .of_wp fun prog w A R s h => by
    obtain ⟨hp, g, d, tk, os⟩ := s
    obtain ⟨hl, h⟩ := h
    have f1 := AutoSeq1.idx_int
    wp_walk using wpAny_loadPart' hl
    all_goals exact ⟨_, rfl, h⟩
theorem unitsOf {k : Nat} {A : Around} (hr : Room k A) : A.units + 1 < cLine := by
  have := hr.units
  omega
noncomputable def fMulA : F2
  | .int i, .int j, S => if cMul1 i j = true then some (.int (i * j), S) else none
  | .tup xs, .int j, S => if xs ≠ [] ∧ 1 ≤ j ∧ j ≤ 1000 ∧ xs.length ≤ 1000 then some (.tup (List.replicate j.toNat xs).flatten, S) else none
  | .str z, .int j, S => if 0 ≤ j ∧ j ≤ 100000 ∧ z.length ≤ 100 then some (.str (Txt.mul z j), S) else none
  | _, _, _ => none
section
variable {X : Cx}
def rRep1 (K : PySem.W.Frag) : R2 := fun x y H Q => ∃ l xs, x = .ref l ∧ y = .int 1 ∧ SqT K H l xs ∧ Q (.ref l) H
theorem op_rep1 : OpR X (binaryOp .Mult) (rRep1 X.K) := by
  intro pins s σ H x y v u Q I rx ry h
  obtain ⟨l, xs, rfl, rfl, hT, q⟩ := h
  cases rx
  obtain ⟨t, rfl⟩ := ry
  obtain ⟨its, r, ⟨⟨cls, dd, data, sl⟩, ho, hc, n, hd⟩, hs⟩ := I.tuple hT
  simp only at hc hd
  subst hc hd
  refine wpAny_binaryOp_repeat_ref (T := "tuple") (U := "int") (by decide) ⟨_, ho, rfl⟩ (fun s' => typeIs_int s' 1 t) noFill_tuple_mul F.fills_int_mul F.slot_int_rmul repeat_tuple F.slot_int_index.lookup
    (call_meets F.slot_int_rmul (typeIs_int s 1 t) F.entry_int_rmul (F.args_int_rmul_2 _ _) (int_rmul_tuple 1 t l its.toArray n dd sl)
      ⟨ho, rfl, ⟨_, ho, rfl⟩, call_meets F.slot_tuple_mul ⟨_, ho, rfl⟩ F.entry_tuple_mul (F.args_tuple_mul_2 _ _) (tuple_mul1 l its.toArray n dd sl t) ⟨ho, ?_⟩⟩)
  exact ⟨.ref l, _, I, rfl, q⟩
def rMulS : R2 := fun x y H Q => ∃ z j, x = .str z ∧ y = .int j ∧ MulOk z j ∧ Q (.str (Txt.mul z j)) H
theorem op_mulS : OpR X (binaryOp .Mult) rMulS := by
  intro pins s σ H x y v u Q I rx ry h
  obtain ⟨z, j, rfl, rfl, ok, q⟩ := h
  obtain ⟨t, rfl⟩ := rx
  obtain ⟨t', rfl⟩ := ry
  exact SB.mul ok fun t2 k => ⟨.str (Txt.mul z j), H, I.tok _, ⟨_, rfl⟩, q⟩
def rMulA (X : Cx) : R2 := fun x y H Q => (rI CMul' (fun i j => .int (i * j)) x y H Q ∨ rMulS x y H Q) ∨ (rRep1 X.K x y H Q ∨ rRepT X.K x y H Q)
theorem op_mulA : OpR X (binaryOp .Mult) (rMulA X) := OpR.or (OpR.or op_mul' op_mulS) (OpR.or op_rep1 op_repT)
theorem Vds.reps {K : PySem.W.Frag} {mg : Str → Option Value} {β : List Addr} {H : Hp} {vs : List V} {ds : List D} [TabCfg] (h : Vds K mg β H vs ds) : ∀ n : Nat, Vds K mg β H (List.replicate n vs).flatten (List.replicate n ds).flatten
  | 0 => .nil
  | n + 1 => by
    rw [List.replicate_succ, List.replicate_succ, List.flatten_cons, List.flatten_cons]
    exact h.append (Vds.reps h n)
variable [TabCfg]
theorem op2_mulA : Op2 X (rMulA X) fMulA := by
  intro β H S x y v u d S' Q r hx hy e k
  cases x <;> cases y <;> first | (cases e; done) | skip
  · rename_i i j
    cases hx; cases hy
    unfold fMulA at e
    dsimp only at e
    split at e
    · rename_i h
      cases e
      exact .inl (.inl ⟨i, j, rfl, rfl, cMul1_ok h, k β H _ .refl r (.int _)⟩)
    · cases e
  · rename_i z j
    cases hx; cases hy
    unfold fMulA at e
    dsimp only at e
    split at e
    · rename_i h
      cases e
      obtain ⟨h1, h2, h3⟩ := h
      refine .inl (.inr ⟨z, j, rfl, rfl, mulOk_of 100 100000 h3 (by omega) (by omega) (by decide) (by decide), k β H _ .refl r (.str _)⟩)
    · cases e
  · rename_i xs j
    obtain ⟨p, vs, rfl, h1, h2⟩ := hx.tup_at
    cases hy
    unfold fMulA at e
    dsimp only at e
    split at e
    · rename_i h
      cases e
      obtain ⟨g1, g2, g3, g4⟩ := h
      by_cases hj : j = 1
      · subst hj
        refine .inr (.inl ⟨p, vs, rfl, rfl, .of h1, k β H _ .refl r ?_⟩)
        have : (List.replicate (1 : Int).toNat xs).flatten = xs := by simp
        rw [this]
        exact .tup h1 h2
      · refine .inr (.inr ⟨p, j, vs, rfl, rfl, .of h1, fun z => g1 ?_, by omega, g3, by rw [h2.length]; exact g4, fun p' hp' => ?_⟩)
        · subst z
          cases h2
          rfl
        · exact k β _ _ (xt_new' hp') (r.tup hp') (.tup upd_same ((Vds.reps h2 j.toNat).ext (xt_new' hp')))
    · cases e
variable {W : WX} {a b : Expr} {ma mb : Mx} {pos : Pos}
theorem me_mulA (ha : ME X W a ma) (hb : ME X W b mb) : ME X W (.BinOp a .Mult b pos) (mBin fMulA ma mb) := me_bin op_mulA op2_mulA ha hb
end
section
variable {S : Sto} {i j : Int}
@[simp] theorem fMulA_int : fMulA (.int i) (.int j) S = if cMul1 i j = true then some (.int (i * j), S) else none := rfl
@[simp] theorem fMulA_tup {xs : List D} : fMulA (.tup xs) (.int j) S = if xs ≠ [] ∧ 1 ≤ j ∧ j ≤ 1000 ∧ xs.length ≤ 1000 then some (.tup (List.replicate j.toNat xs).flatten, S) else none := rfl
@[simp] theorem fMulA_str {z : Str} : fMulA (.str z) (.int j) S = if 0 ≤ j ∧ j ≤ 100000 ∧ z.length ≤ 100 then some (.str (Txt.mul z j), S) else none := rfl
end
end Eng

set_option maxHeartbeats 2000000
/-! The engine, part 29: texts that are split; d.update(e). -/
namespace Eng
open PySem PySem.Spec PyProof.Rows L2
variable [TabCfg]
/-! ### texts split -/
def ckS : D → Sto → Bool := fun o _ => match o with
  | .str _ => true
  | _ => false
section
variable {X : Cx} {W : WX} {pos apos : Pos} {o e f : Expr} {mo me mf : Mx}
theorem ckS_ok {β : List Addr} {H : Hp} {S : Sto} {o : D} {v : V} (r : Rl X.K X.mg β H S) (h : Vd X.K X.mg β H v o) (e : ckS o S = true) : tyV X.K "str" v H := by
  cases o with
  | str z => cases h; rfl
  | _ => cases e
def newStrs (ys : List Str) (S : Sto) : Option (D × Sto) := if ys.length ≤ 16777216 then some (.ref S.length, S ++ [.lst (ys.map D.str)]) else none
theorem strs_new {β : List Addr} {H : Hp} {S S' : Sto} {ys : List Str} {d : D} {Q : VK} (rl : Rl X.K X.mg β H S) (e : newStrs ys S = some (d, S')) (k : ∀ β' H' w, Xt X.K β H β' H' → Rl X.K X.mg β' H' S' → Vd X.K X.mg β' H' w d → Q w H') : rNewStrs ys H Q := by
  unfold newStrs at e
  split at e
  · cases e
    intro p hp
    have hv : ∀ β1 H1, Vds X.K X.mg β1 H1 (ys.map V.str) (ys.map D.str) := by
      intro β1 H1
      clear k
      induction ys with
      | nil => exact .nil
      | cons y r ih => exact .cons (.str y) (ih (by simp at *; omega))
    have x : Xt X.K β H (β ++ [p]) (upd H p (.lst (ys.map V.str))) := xt_new hp
    have r' := rl.new (o := .lst (ys.map V.str)) (b := .lst (ys.map D.str)) hp ⟨_, upd_same, hv _ _⟩
    refine k _ _ _ x r' (.ref ?_)
    rw [← rl.len, List.getElem?_append_right (Nat.le_refl _), Nat.sub_self]
    rfl
  · cases e
def fSplit : FM
  | .str a, [.str b], S => if b.length ≠ 0 ∧ a.length + 2 ≤ 16777216 then newStrs (Txt.split a b) S else none
  | .str a, [.str b, .int k], S => if b.length ≠ 0 ∧ a.length + 2 ≤ 16777216 ∧ 0 ≤ k ∧ k ≤ 1000000 then newStrs (Txt.splitMax a b k) S else none
  | _, _, _ => none
theorem len0 {b : Str} (h : b.length ≠ 0) : (b.length == 0) = false := by simpa using h
abbrev rSpl1 : V → List V → Hp → VK → Prop := fun x xs H Q => ∃ a b, x = .str a ∧ xs = [.str b] ∧ (b.length == 0) = false ∧ a.length + 2 ≤ sizeLine ∧ rNewStrs (Txt.split a b) H Q
abbrev rSpl2 : V → List V → Hp → VK → Prop := fun x xs H Q => ∃ (a b : Str) (k : Int), x = .str a ∧ xs = [.str b, .int k] ∧ (b.length == 0) = false ∧ -(2 ^ 63) ≤ k ∧ k < 2 ^ 63 ∧ a.length + 2 ≤ sizeLine ∧ rNewStrs (Txt.splitMax a b k) H Q
theorem mt_spl : MtR X "str.split" (fun x xs H Q => rSpl1 x xs H Q ∨ rSpl2 x xs H Q) := by
  intro pins s σ H x xs v us Q I rx rs h
  rcases h with h | h
  · exact mt_split pins s σ H x xs v us Q I rx rs h
  · exact mt_splitMax pins s σ H x xs v us Q I rx rs h
theorem o_split : OpM X "str" ckS (fun x xs H Q => rSpl1 x xs H Q ∨ rSpl2 x xs H Q) fSplit := by
  refine ⟨fun β H S o v r h e => ckS_ok r h e, fun β H S o v xs vs d S' Q r hv hx e k => ?_⟩
  unfold fSplit at e
  split at e
  · rename_i a b
    cases hv
    obtain ⟨u, rfl, hu⟩ := hx.one
    cases hu
    split at e
    · rename_i hc
      exact .inl ⟨a, b, rfl, rfl, len0 hc.1, by rw [sizeLine_eq]; exact hc.2, strs_new r e k⟩
    · cases e
  · rename_i a b n
    cases hv
    obtain ⟨u, w, rfl, hu, hw⟩ := hx.two
    cases hu
    cases hw
    split at e
    · rename_i hc
      exact .inr ⟨a, b, n, rfl, rfl, len0 hc.1, by omega, by omega, by rw [sizeLine_eq]; exact hc.2.1, strs_new r e k⟩
    · cases e
  · cases e
theorem me_split1 (ho : ME X W o mo) (ha : ME X W e me) (hbase : attributeBase o "split" X.env (eval o X.env) = eval o X.env := by rfl)
    (hfew : ((backTo pos (starEach [e] X.env)).all (fun x => !x.1) && (backToKw pos (keywordEach [] X.env)).all (fun x => x.1.isSome) && decide ([e].length + ([] : List Keyword).length + (if ([] : List Keyword).isEmpty then 0 else 1) < 30)) = true := by rfl)
    (hline : (apos.endLine == pos.line) = true := by rfl) (hs : starEach [e] X.env = [(false, eval e X.env)] := by rfl) : ME X W (.Call (.Attribute o "split" apos) [e] [] pos) (mBM ckS fSplit mo (mCons me mNil)) :=
  me_bm PySem.F.plainAttrs_str PySem.F.slot_str_split PySem.F.type_str_split mt_spl o_split ho (ma_cons ha ma_nil hs) hbase hfew hline hs rfl
theorem me_split2 (ho : ME X W o mo) (ha : ME X W e me) (hf : ME X W f mf) (hbase : attributeBase o "split" X.env (eval o X.env) = eval o X.env := by rfl)
    (hfew : ((backTo pos (starEach [e, f] X.env)).all (fun x => !x.1) && (backToKw pos (keywordEach [] X.env)).all (fun x => x.1.isSome) && decide ([e, f].length + ([] : List Keyword).length + (if ([] : List Keyword).isEmpty then 0 else 1) < 30)) = true := by rfl)
    (hline : (apos.endLine == pos.line) = true := by rfl) (hs : starEach [e, f] X.env = (false, eval e X.env) :: starEach [f] X.env := by rfl) (hs2 : starEach [f] X.env = [(false, eval f X.env)] := by rfl) (hpl : (backTo pos (starEach [f] X.env)).any (·.1) = false := by rfl) : ME X W (.Call (.Attribute o "split" apos) [e, f] [] pos) (mBM ckS fSplit mo (mCons me (mCons mf mNil))) :=
  me_bm PySem.F.plainAttrs_str PySem.F.slot_str_split PySem.F.type_str_split mt_spl o_split ho (ma_cons ha (ma_cons hf ma_nil hs2) hs) hbase hfew hline hs hpl
def fPart : FM
  | .str a, [.str b], S => if b.length ≠ 0 ∧ a.length ≤ 16777216 then some (.tup [.str (Txt.partition a b).1, .str (Txt.partition a b).2.1, .str (Txt.partition a b).2.2], S) else none
  | _, _, _ => none
theorem o_part : OpM X "str" ckS (fun x xs H Q => ∃ a b, x = .str a ∧ xs = [.str b] ∧ (b.length == 0) = false ∧ a.length ≤ sizeLine ∧
      ∀ p, H p = none → Q (.ref p) (upd H p (.tup [.str (Txt.partition a b).1, .str (Txt.partition a b).2.1, .str (Txt.partition a b).2.2]))) fPart := by
  refine ⟨fun β H S o v r h e => ckS_ok r h e, fun β H S o v xs vs d S' Q r hv hx e k => ?_⟩
  unfold fPart at e
  split at e
  · rename_i a b
    cases hv
    obtain ⟨u, rfl, hu⟩ := hx.one
    cases hu
    split at e
    · rename_i hc
      cases e
      exact ⟨a, b, rfl, rfl, len0 hc.1, by rw [sizeLine_eq]; exact hc.2, fun p hp => k β _ _ (xt_new' hp) (r.tup hp) (.tup upd_same (.cons (.str _) (.cons (.str _) (.cons (.str _) .nil))))⟩
    · cases e
  · cases e
theorem me_part (ho : ME X W o mo) (ha : ME X W e me) (hbase : attributeBase o "partition" X.env (eval o X.env) = eval o X.env := by rfl)
    (hfew : ((backTo pos (starEach [e] X.env)).all (fun x => !x.1) && (backToKw pos (keywordEach [] X.env)).all (fun x => x.1.isSome) && decide ([e].length + ([] : List Keyword).length + (if ([] : List Keyword).isEmpty then 0 else 1) < 30)) = true := by rfl)
    (hline : (apos.endLine == pos.line) = true := by rfl) (hs : starEach [e] X.env = [(false, eval e X.env)] := by rfl) : ME X W (.Call (.Attribute o "partition" apos) [e] [] pos) (mBM ckS fPart mo (mCons me mNil)) :=
  me_bm PySem.F.plainAttrs_str PySem.F.slot_str_partition PySem.F.type_str_partition mt_partition o_part ho (ma_cons ha ma_nil hs) hbase hfew hline hs rfl
end
/-! ### d.update(e) -/
def mergedD (kvs more : List (Key × D)) : List (Key × D) := more.foldl (fun acc kv => putD acc kv.1 kv.2) kvs
def mergedK (kvs more : List (Key × V)) : List (Key × V) := more.foldl (fun acc kv => putK acc kv.1 kv.2) kvs
theorem kv_merged : ∀ {more : List (Key × V)} {mv : List (Key × Value)} {kvs : List (Key × V)} {vs : List (Key × Value)}, KV kvs vs → KV more mv → KV (mergedK kvs more) (merged vs mv)
  | [], _, _, _, r, m => by cases m; exact r
  | (k, x) :: more, mv, kvs, vs, r, m => by
    cases m with
    | cons h t =>
      obtain ⟨h1, h2⟩ := h
      rename_i y ys
      obtain ⟨k', u⟩ := y
      cases h1
      show KV (mergedK (putK kvs k x) more) (merged (stored vs k u) ys)
      exact kv_merged (r.put k h2) t
theorem pd_merged {K : PySem.W.Frag} {mg : Str → Option Value} {β : List Addr} {H : Hp} : ∀ {more : List (Key × V)} {md : List (Key × D)} {kvs : List (Key × V)} {ds : List (Key × D)}, Pd K mg β H kvs ds → Pd K mg β H more md → Pd K mg β H (mergedK kvs more) (mergedD ds md)
  | [], _, _, _, r, m => by cases m; exact r
  | (k, x) :: more, mv, kvs, vs, r, m => by
    cases m with
    | cons h t =>
      obtain ⟨h1, h2⟩ := h
      rename_i y ys
      obtain ⟨k', u⟩ := y
      cases h1
      show Pd K mg β H (mergedK (putK kvs k x) more) (mergedD (putD vs k u) ys)
      exact pd_merged (r.put k h2) t
theorem mergedK_le : ∀ (more kvs : List (Key × V)), (mergedK kvs more).length ≤ kvs.length + more.length
  | [], kvs => Nat.le_refl _
  | (k, x) :: more, kvs => by
    have h1 := mergedK_le more (putK kvs k x)
    have h2 := length_putK kvs k x
    show (mergedK (putK kvs k x) more).length ≤ _
    rw [List.length_cons]
    omega
section
variable {X : Cx} {pins : List (Addr × Obj)} {σ : L2.St} {H : Hp} {s : Shared} {a b : Addr} {A : Around} {E : Value → Shared → Prop}
theorem d_upd {kvs more : List (Key × V)} {Q : Value → Shared → Prop} (I : Inv X pins σ H s) (e : H a = some (.dK kvs)) (eb : H b = some (.dK more)) (hab : a ≠ b) (hl : kvs.length + more.length ≤ sizeLine)
    (h : ∀ s', Inv X pins σ (upd H a (.dK (mergedK kvs more))) s' → Q .none s') : wpAny (model X.prog X.w) A (call (.builtin "dict.update") [.ref a, .ref b]) Q E s := by
  obtain ⟨z, hd, vs, rel, dd⟩ := dk_of I.hok e
  obtain ⟨z2, hd2, ws, rel2, dd2⟩ := dk_of I.hok eb
  refine call_meetsIn PySem.F.slot_dict_update dd.typeIs PySem.F.entry_dict_update (PySem.F.args_dict_update_2 _ _) (meets_dict_update (mixKind X.prog X.w) a b hab hd2) ⟨vs, ws, dd, dd2, by rw [← rel.length, ← rel2.length]; exact hl, fun h' d1 d2 hs => ?_⟩
  have he : ∃ q, h'.get? a = some q := let ⟨q, _, _, hq, _⟩ := d1; ⟨q, hq⟩
  exact h _ (d_write I (by rw [e]; exact True.intro) hs he (dk_new (Nat.le_trans (mergedK_le more kvs) hl) hd (kv_merged rel rel2) d1))
end
def updD (n m : Nat) (S : Sto) : R D := match S[n]?, S[m]? with
  | some (.dk kvs), some (.dk more) => if n ≠ m ∧ kvs.length + more.length ≤ 16777216 then .ok .non (S.set n (.dk (mergedD kvs more))) else .stuck
  | _, _ => .stuck
def mUpd (mo mk : Mx) : Mx := fun ρ S => (mo ρ S).bind fun o S1 => match dictAt o S1 with
  | some n => (mk ρ S1).bind fun y S2 => match y with
    | .ref m => updD n m S2
    | _ => .stuck
  | none => .stuck
section
variable {X : Cx} {W : WX} {pos apos : Pos} {o e : Expr} {mo me : Mx}
theorem me_upd (ho : ME X W o mo) (he : ME X W e me) (m : M1 X o "update" apos e pos := by exact ⟨rfl, rfl, rfl, rfl⟩) : ME X W (.Call (.Attribute o "update" apos) [e] [] pos) (mUpd mo me) := by
  refine ⟨⟨fun pins s σ H Q I ⟨β, S, ρ, rl, en, q⟩ => ?_⟩⟩
  have s1 : tM X.K X.mg W mo σ H fun x H1 => ∃ a, x = .ref a ∧ IsD H1 a ∧ tM X.K X.mg W me σ H1 fun y H2 => ∃ β2 S2 n k, Rl X.K X.mg β2 H2 S2 ∧ β2[n]? = some a ∧ Vd X.K X.mg β2 H2 y (.ref k) ∧ Po X.K X.mg W σ β2 H2 (updD n k S2) fun x β' _ H' => ∀ v, Vd X.K X.mg β' H' v x → Q v H' := by
    refine ⟨β, S, ρ, rl, en, (Po.bind q).mono fun d β1 S1 H1 x1 r1 q1 v hv => ?_⟩
    cases e1 : dictAt d S1 with
    | none => rw [e1] at q1; exact q1.elim
    | some n =>
      rw [e1] at q1
      obtain ⟨a, rfl, h1, h2⟩ := dictAt_ok r1 hv e1
      refine ⟨a, rfl, h2, β1, S1, ρ, r1, en.ext x1, (Po.bind q1).mono fun y' β2 S2 H2 x2 r2 q2 y hy => ?_⟩
      cases y' with
      | ref k => exact ⟨β2, S2, n, k, r2, x2.at' h1, hy, q2⟩
      | _ => exact q2.elim
  refine wpAny_Call_method m.base m.few m.line PySem.F.plainAttrs_dict PySem.F.slot_dict_update PySem.F.type_dict_update (thn (ho.pe.run pins s σ H _ I s1) fun u s1 ⟨x, H1, I1, rx, a, ex, dd, q1⟩ => ?_)
  subst ex
  obtain rfl : u = Value.ref a := rx
  obtain ⟨t1, t2, _⟩ := isD_at I1 dd
  refine ⟨t1, t2, ?_⟩
  rw [m.trees]
  refine Calls.callWith_builtin rfl (Calls.evalArgs_plain (Calls.spliced_cons (thn (he.pe.run pins s1 σ H1 _ I1 q1) fun iv s2 ⟨y, H2, I2, ry, β2, S2, n, k, r2, g1, hy, q2⟩ => Calls.spliced_nil ?_)))
  obtain ⟨b, rfl, hb⟩ := hy.ref_inv
  obtain rfl : iv = Value.ref b := ry
  unfold updD at q2
  split at q2
  · rename_i kvs more e1 e2
    split at q2
    · rename_i hc
      obtain ⟨xs, w1, w2⟩ := r2.at' n a _ g1 e1
      obtain ⟨ys, w3, w4⟩ := r2.at' k b _ hb e2
      have hab : a ≠ b := fun z => hc.1 (r2.uniq n k a _ _ g1 (by rw [z]; exact hb) e1 e2 rfl rfl)
      refine d_upd I2 w1 w3 hab (by rw [w2.length, w4.length, sizeLine_eq]; exact hc.2) fun s' J => ?_
      obtain ⟨r', x'⟩ := r2.write (o := .dK (mergedK xs ys)) (b' := .dk (mergedD kvs more)) g1 e1 rfl rfl fun x => ⟨_, upd_same, (pd_merged w2 w4).ext x⟩
      exact ⟨.non, _, J, rfl, q2 β2 _ x' r' .non .non⟩
    · exact q2.elim
  · exact q2.elim
end
section
variable {ρ : Env'} {S : Sto} {mo mk : Mx} {a b : Str} {k : Int} {n m : Nat} {ys : List Str}
@[simp] theorem ckS_str : ckS (.str a) S = true := rfl
@[simp] theorem fSplit1 : fSplit (.str a) [.str b] S = if b.length ≠ 0 ∧ a.length + 2 ≤ 16777216 then newStrs (Txt.split a b) S else none := rfl
@[simp] theorem fSplit2 : fSplit (.str a) [.str b, .int k] S = if b.length ≠ 0 ∧ a.length + 2 ≤ 16777216 ∧ 0 ≤ k ∧ k ≤ 1000000 then newStrs (Txt.splitMax a b k) S else none := rfl
@[simp] theorem fPart_str : fPart (.str a) [.str b] S = if b.length ≠ 0 ∧ a.length ≤ 16777216 then some (.tup [.str (Txt.partition a b).1, .str (Txt.partition a b).2.1, .str (Txt.partition a b).2.2], S) else none := rfl
@[simp] theorem newStrs_ev : newStrs ys S = if ys.length ≤ 16777216 then some (.ref S.length, S ++ [.lst (ys.map D.str)]) else none := rfl
@[simp] theorem ev_upd : mUpd mo mk ρ S = (mo ρ S).bind fun o S1 => match dictAt o S1 with
  | some n => (mk ρ S1).bind fun y S2 => match y with
    | .ref m => updD n m S2
    | _ => .stuck
  | none => .stuck := rfl
@[simp] theorem updD_ev : updD n m S = match S[n]?, S[m]? with
  | some (.dk kvs), some (.dk more) => if n ≠ m ∧ kvs.length + more.length ≤ 16777216 then .ok .non (S.set n (.dk (mergedD kvs more))) else .stuck
  | _, _ => .stuck := rfl
end
theorem ev_call0 {m : List D → Sto → R D} {ρ : Env'} {S S' : Sto} {d : D} (h : m [] S = .ok d S') : mCall0 m ρ S = .ok d S' := by
  unfold mCall0
  rw [h]
end Eng

set_option maxHeartbeats 2000000
/-! The engine, part 30: splitting at blanks, in plain lists of signs. -/
namespace Eng
open PySem PySem.Spec PyProof.Rows L2 Builtin Builtin.Str StrLaws
def mkS (l : List Nat) : Str := ⟨l.toArray⟩
theorem mkS_cps (x : Str) : mkS x.cps.toList = x := by
  cases x
  rfl
theorem mkS_toList (l : List Nat) : (mkS l).cps.toList = l := rfl
theorem mkS_len (l : List Nat) : (mkS l).length = l.length := rfl
/-- where blanks stand, at most lim of them -/
def posT : Nat → Nat → List Nat → List Nat
  | _, _, [] => []
  | i, lim, c :: cs => if 0 < lim ∧ c = 32 then i :: posT (i + 1) (lim - 1) cs else posT (i + 1) lim cs
def splitA : List Nat → Nat → List Nat → List (List Nat)
  | acc, _, [] => [acc]
  | acc, lim, c :: cs => if 0 < lim ∧ c = 32 then acc :: splitA [] (lim - 1) cs else splitA (acc ++ [c]) lim cs
def splitF : List Nat → List Nat → List (List Nat)
  | acc, [] => [acc]
  | acc, c :: cs => if c = 32 then acc :: splitF [] cs else splitF (acc ++ [c]) cs
theorem blank_is : (" " : Str) = ⟨#[32]⟩ := by decide +kernel
theorem occ_loop (x : Str) (lim : Nat) : ∀ (cs : List Nat) (i : Nat) (st : Array Nat × Nat), x.cps.toList.drop i = cs → i ≤ x.length → st.snd ≤ i →
    (forIn (List.range' i (cs.length + 1)) st (occBody x ⟨#[32]⟩ x.length lim)).run.fst.toList = st.fst.toList ++ posT i (lim - st.fst.size) cs
  | [], i, st, h, hi, hs => by
    have hlen : i = x.length := by
      have := congrArg List.length h
      rw [List.length_drop] at this
      have e : x.cps.toList.length = x.length := by simp [Str.length]
      simp at this
      have : x.length ≤ i := by
        simp [Str.length]
        omega
      omega
    rw [List.length_nil, List.range'_succ, List.range'_zero, List.forIn_cons]
    unfold occBody
    rw [if_neg]
    · simp [posT]
    · rintro ⟨⟨_, h2⟩, _⟩
      have : (⟨#[32]⟩ : Str).length = 1 := rfl
      omega
  | c :: cs, i, st, h, hi, hs => by
    have hlt : i < x.cps.toList.length := by
      by_cases hx : i < x.cps.toList.length
      · exact hx
      · rw [List.drop_eq_nil_of_le (by omega)] at h
        cases h
    have hlt2 : i < x.length := by simpa [Str.length] using hlt
    have hd : x.cps.toList.drop (i + 1) = cs := by
      rw [← List.drop_drop, h]
      rfl
    have hc : x.cps.toList[i]? = some c := by
      have := congrArg (fun l => l[0]?) h
      simpa using this
    rw [List.length_cons, List.range'_succ, List.forIn_cons]
    have test : (i + (⟨#[32]⟩ : Str).length ≤ x.length ∧ subAt x ⟨#[32]⟩ i = true) ↔ c = 32 := by
      rw [subAt_one, hc]
      simp
    unfold posT
    by_cases hq : st.fst.size < lim ∧ c = 32
    · have e1 : (((st.fst.size < lim ∧ st.snd ≤ i) ∧ i + (⟨#[32]⟩ : Str).length ≤ x.length) ∧ subAt x ⟨#[32]⟩ i = true) := ⟨⟨⟨hq.1, hs⟩, (test.mpr hq.2).1⟩, (test.mpr hq.2).2⟩
      have e2 : 0 < lim - st.fst.size ∧ c = 32 := ⟨by omega, hq.2⟩
      have ih := occ_loop x lim cs (i + 1) (st.fst.push i, i + 1) hd (by omega) (Nat.le_refl _)
      rw [if_pos e2]
      unfold occBody at ih ⊢
      rw [if_pos e1]
      refine Eq.trans ih ?_
      rw [Array.toList_push, Array.size_push, List.append_assoc, Nat.sub_add_eq]
      rfl
    · have e1 : ¬ (((st.fst.size < lim ∧ st.snd ≤ i) ∧ i + (⟨#[32]⟩ : Str).length ≤ x.length) ∧ subAt x ⟨#[32]⟩ i = true) := fun z => hq ⟨z.1.1.1, test.mp ⟨z.1.2, z.2⟩⟩
      have e2 : ¬ (0 < lim - st.fst.size ∧ c = 32) := fun z => hq ⟨by omega, z.2⟩
      have ih := occ_loop x lim cs (i + 1) (st.fst, st.snd) hd (by omega) (Nat.le_trans hs (Nat.le_succ _))
      rw [if_neg e2]
      unfold occBody at ih ⊢
      rw [if_neg e1]
      exact ih
theorem occ_blank (x : Str) (lim : Nat) : occurrences x " " 0 x.length lim = posT 0 lim x.cps.toList := by
  rw [blank_is, occ_eq]
  have h := occ_loop x lim x.cps.toList 0 (#[], 0) rfl (Nat.zero_le _) (Nat.le_refl _)
  have e : x.length + 1 - 0 = x.cps.toList.length + 1 := by simp [Str.length]
  rw [e]
  exact h
theorem parts_loop (x : Str) : ∀ (cs : List Nat) (lim a i : Nat), x.cps.toList.drop i = cs → a ≤ i → i ≤ x.length →
    partsFrom x 1 a (posT i lim cs) = (splitA ((x.cps.toList.drop a).take (i - a)) lim cs).map mkS
  | [], lim, a, i, h, ha, hi => by
    have hlen : i = x.length := by
      have := congrArg List.length h
      rw [List.length_drop] at this
      simp [Str.length] at this ⊢
      simp [Str.length] at hi
      omega
    show [strSub x a x.length] = [mkS _]
    congr 1
    apply Str.ext'
    apply Array.toList_inj.mp
    rw [strSub_toList, mkS_toList, hlen]
  | c :: cs, lim, a, i, h, ha, hi => by
    have hlt : i < x.cps.toList.length := by
      by_cases hx : i < x.cps.toList.length
      · exact hx
      · rw [List.drop_eq_nil_of_le (by omega)] at h
        cases h
    have hlt2 : i < x.length := by simpa [Str.length] using hlt
    have hd : x.cps.toList.drop (i + 1) = cs := by
      rw [← List.drop_drop, h]
      rfl
    unfold posT splitA
    by_cases hq : 0 < lim ∧ c = 32
    · rw [if_pos hq, if_pos hq]
      show strSub x a i :: partsFrom x 1 (i + 1) (posT (i + 1) (lim - 1) cs) = _
      rw [parts_loop x cs (lim - 1) (i + 1) (i + 1) hd (Nat.le_refl _) (by omega), Nat.sub_self, List.take_zero, List.map_cons]
      congr 1
      apply Str.ext'
      apply Array.toList_inj.mp
      rw [strSub_toList, mkS_toList]
    · rw [if_neg hq, if_neg hq, parts_loop x cs lim a (i + 1) hd (by omega) (by omega)]
      congr 2
      have e : i + 1 - a = (i - a) + 1 := by omega
      have hc : (x.cps.toList.drop a)[i - a]? = some c := by
        rw [List.getElem?_drop, show a + (i - a) = i by omega]
        have := congrArg (fun l => l[0]?) h
        simpa using this
      rw [e, List.take_add_one, hc]
      rfl
theorem parts_blank (x : Str) (lim : Nat) : partsBetween x (posT 0 lim x.cps.toList) 1 = (splitA [] lim x.cps.toList).map mkS := by
  rw [partsBetween_eq, parts_loop x x.cps.toList lim 0 0 rfl (Nat.le_refl _) (Nat.zero_le _)]
  rfl
theorem one_of_empty (x : Str) (lim : Nat) (h : (posT 0 lim x.cps.toList).isEmpty = true) : [x] = (splitA [] lim x.cps.toList).map mkS := by
  rw [← parts_blank, List.isEmpty_iff.mp h]
  show [x] = [strSub x 0 x.length]
  congr 1
  apply Str.ext'
  apply Array.toList_inj.mp
  rw [strSub_toList, Nat.sub_zero, List.drop_zero]
  exact (List.take_of_length_le (by simp [Str.length])).symm
theorem kind_blank (x : Str) : (decide (x.length < (" " : Str).length) || decide (Builtin.Str.strKind x < Builtin.Str.strKind (" " : Str))) = decide (x.length < 1) := by
  have h1 : Builtin.Str.strKind (" " : Str) = 1 := by decide +kernel
  have h2 : 1 ≤ Builtin.Str.strKind x := by
    unfold Builtin.Str.strKind
    split
    · exact Nat.le_refl _
    · split <;> decide
  have h3 : (" " : Str).length = 1 := rfl
  rw [h1, h3, decide_eq_false (by omega : ¬ Builtin.Str.strKind x < 1), Bool.or_false]
theorem split_any (x : Str) (lim : Nat) : (if decide (x.length < 1) = true then [x] else if (posT 0 lim x.cps.toList).isEmpty = true then [x] else partsBetween x (posT 0 lim x.cps.toList) 1) = (splitA [] lim x.cps.toList).map mkS := by
  by_cases h0 : x.length < 1
  · rw [if_pos (decide_eq_true h0)]
    refine one_of_empty x lim ?_
    have : x.cps.toList = [] := List.eq_nil_of_length_eq_zero (by simp [Str.length] at h0 ⊢; omega)
    rw [this]
    rfl
  · rw [if_neg (by simpa using h0)]
    by_cases h1 : (posT 0 lim x.cps.toList).isEmpty = true
    · rw [if_pos h1]
      exact one_of_empty x lim h1
    · rw [if_neg h1, parts_blank]
theorem splitA_all : ∀ (cs acc : List Nat) (lim : Nat), cs.length ≤ lim → splitA acc lim cs = splitF acc cs
  | [], acc, lim, h => rfl
  | c :: cs, acc, lim, h => by
    rw [List.length_cons] at h
    unfold splitA splitF
    by_cases hc : c = 32
    · rw [if_pos ⟨by omega, hc⟩, if_pos hc, splitA_all cs [] (lim - 1) (by omega)]
    · rw [if_neg (fun z => hc z.2), if_neg hc, splitA_all cs (acc ++ [c]) lim (by omega)]
/-- x.split(" ") -/
theorem split_blank (x : Str) : Txt.split x " " = (splitF [] x.cps.toList).map mkS := by
  unfold Txt.split
  rw [kind_blank, occ_blank]
  have h1 : (" " : Str).length = 1 := rfl
  rw [h1, split_any x, splitA_all _ _ _ (by simp [Str.length])]
theorem splitMax_blank (x : Str) (k : Int) (hk : 0 ≤ k) : Txt.splitMax x " " k = (splitA [] k.toNat x.cps.toList).map mkS := by
  unfold Txt.splitMax
  have hl : limitOf x k = k.toNat := by
    unfold limitOf
    rw [if_neg (by omega)]
  rw [kind_blank, hl, occ_blank]
  have h1 : (" " : Str).length = 1 := rfl
  rw [h1, split_any x]
/-- with blanks again -/
def joinL : List (List Nat) → List Nat
  | [] => []
  | [a] => a
  | a :: b :: r => a ++ [32] ++ joinL (b :: r)
theorem splitF_ne : ∀ (cs acc : List Nat), ∃ p r, splitF acc cs = p :: r
  | [], acc => ⟨_, _, rfl⟩
  | c :: cs, acc => by
    unfold splitF
    split
    · exact ⟨_, _, rfl⟩
    · exact splitF_ne cs _
theorem joinL_splitF : ∀ (cs acc : List Nat), joinL (splitF acc cs) = acc ++ cs
  | [], acc => by simp [splitF, joinL]
  | c :: cs, acc => by
    unfold splitF
    by_cases hc : c = 32
    · rw [if_pos hc]
      have ih := joinL_splitF cs []
      obtain ⟨p, r, e⟩ := splitF_ne cs []
      rw [e] at ih ⊢
      show acc ++ [32] ++ joinL (p :: r) = _
      rw [ih, hc]
      simp
    · rw [if_neg hc, joinL_splitF cs (acc ++ [c])]
      simp
theorem splitA_few : ∀ (cs acc : List Nat) (n : Nat), n + 1 ≤ (splitF acc cs).length → splitA acc n cs = (splitF acc cs).take n ++ [joinL ((splitF acc cs).drop n)]
  | [], acc, n, h => by
    have : n = 0 := by
      have : (splitF acc []).length = 1 := rfl
      omega
    subst this
    rfl
  | c :: cs, acc, 0, h => by
    rw [List.take_zero, List.drop_zero, joinL_splitF, List.nil_append]
    have zero : ∀ (cs acc : List Nat), splitA acc 0 cs = [acc ++ cs] := by
      intro cs
      induction cs with
      | nil => intro acc; simp [splitA]
      | cons c cs ih =>
        intro acc
        unfold splitA
        rw [if_neg (fun z => absurd z.1 (by decide)), ih]
        simp
    exact zero _ _
  | c :: cs, acc, n + 1, h => by
    unfold splitF at h ⊢
    unfold splitA
    by_cases hc : c = 32
    · rw [if_pos hc] at h ⊢
      rw [if_pos ⟨Nat.succ_pos _, hc⟩, Nat.add_sub_cancel, splitA_few cs [] n (by simpa using h)]
      rfl
    · rw [if_neg hc] at h ⊢
      rw [if_neg (fun z => hc z.2)]
      exact splitA_few cs (acc ++ [c]) (n + 1) h
theorem splitA_less : ∀ (cs acc : List Nat) (n : Nat), (splitF acc cs).length ≤ n + 1 → splitA acc n cs = splitF acc cs
  | [], acc, n, h => rfl
  | c :: cs, acc, n, h => by
    unfold splitF at h ⊢
    unfold splitA
    by_cases hc : c = 32
    · rw [if_pos hc] at h ⊢
      rw [List.length_cons] at h
      have hn : 0 < n := by
        obtain ⟨p, r, e⟩ := splitF_ne cs []
        rw [e, List.length_cons] at h
        omega
      rw [if_pos ⟨hn, hc⟩, splitA_less cs [] (n - 1) (by omega)]
    · rw [if_neg hc] at h ⊢
      rw [if_neg (fun z => hc z.2)]
      exact splitA_less cs (acc ++ [c]) n h
/-- x.partition(" ")[0] -/
theorem part_blank (x : Str) : (Txt.partition x " ").1 = mkS ((splitF [] x.cps.toList).headD []) := by
  unfold Txt.partition
  rw [occ_blank]
  have key : ∀ (cs : List Nat) (i : Nat), x.cps.toList.drop i = cs → i ≤ x.length → (match posT i 1 cs with
      | j :: _ => strSub x 0 j
      | [] => x) = mkS ((splitF (x.cps.toList.take i) cs).headD []) := by
    intro cs
    induction cs with
    | nil =>
      intro i h hi
      show x = mkS (x.cps.toList.take i)
      rw [List.take_of_length_le (List.drop_eq_nil_iff.mp h), mkS_cps]
    | cons c cs ih =>
      intro i h hi
      have hlt : i < x.cps.toList.length := by
        by_cases hx : i < x.cps.toList.length
        · exact hx
        · rw [List.drop_eq_nil_of_le (by omega)] at h
          cases h
      have hd : x.cps.toList.drop (i + 1) = cs := by
        rw [← List.drop_drop, h]
        rfl
      have hc : x.cps.toList[i]? = some c := by
        have := congrArg (fun l => l[0]?) h
        simpa using this
      unfold posT splitF
      by_cases hq : c = 32
      · rw [if_pos ⟨by decide, hq⟩, if_pos hq]
        show strSub x 0 i = mkS (x.cps.toList.take i)
        apply Str.ext'
        apply Array.toList_inj.mp
        rw [strSub_toList, mkS_toList]
        simp
      · rw [if_neg (fun z => hq z.2), if_neg hq]
        have := ih (i + 1) hd (by simp [Str.length] at hlt ⊢; omega)
        rw [this, List.take_add_one, hc]
        rfl
  have := key x.cps.toList 0 rfl (Nat.zero_le _)
  rw [List.take_zero] at this
  rw [← this]
  cases posT 0 1 x.cps.toList <;> rfl
theorem join_blank (ys : List (List Nat)) : Txt.join " " (ys.map mkS) = mkS (joinL ys) := by
  show glued _ _ = _
  rw [glued_eq_join]
  induction ys with
  | nil => rfl
  | cons a r ih =>
    cases r with
    | nil => rfl
    | cons b r =>
      show mkS a ++ " " ++ Str.join " " ((b :: r).map mkS) = _
      rw [ih, blank_is]
      apply Str.ext'
      apply Array.toList_inj.mp
      show (a.toArray ++ #[32] ++ (joinL (b :: r)).toArray).toList = _
      simp [joinL]
      rfl
end Eng

set_option maxHeartbeats 2000000
/-! The engine, part 31: list comprehensions whose parts raise. -/
namespace Eng
open PySem PySem.Spec PyProof.Rows L2
section
variable {M : Model} {A : Around} {E : Value → Shared → Prop} {env : Env}
/-- behind a comprehension's loop, its variables' names at C; what is raised goes on from the frame F -/
def CPost (M : Model) (A : Around) (E : Value → Shared → Prop) (use : Option (Value → Sem Unit)) (Q : Value → Shared → Prop) (acc : Value) (C : Addr) (F : Option Addr) : Result → Shared → Prop
  | .error x, t => ∃ m, t.heap.Ns C m ∧ ∀ g, Heap.SameBut C t.heap g → ∀ ce : Env, ce.locals = C → ce.frame = F → wpAny M A (passOn "comprehension.variables-let-go" x ce : Sem Value) (fun _ _ => False) E { t with heap := g }
  | r, t => compPost M A E use Q acc C r t
theorem wpAny_compF {e : Expr} {scope : Scope} {pos : Pos} {na fi : Sem Value} {g : Comprehension} {gs : List Comprehension} {cl : List (Str × Addr)} {use : Option (Value → Sem Unit)} {Q : Value → Shared → Prop} {s : Shared}
    (c1 : clausesOf e = g :: gs) (c2 : ∀ x, foldedSetIterable g.iter env x = pure x) (c3 : closureFor scope env = pure cl) (c4 : scope.kind = .function) (c5 : ∀ x ∈ scope.names, x.2 = .local → scope.names.lookup x.1 = some .local)
    (h : wpAny M A fi (fun x t1 => wpAny M A (pyIter x) (fun it t2 => wpAny M A na (fun acc t3 => wpAny M A (newFunctionEnv scope env.globals cl [] env.qual none .none (some env)) (fun ce t4 =>
      codeAny M A (.compStart e 0 it acc { ce with scope := relabel scope env }) (CPost M A E use Q acc ce.locals ce.frame) t4) E t3) E t2) E t1) E s) : wpAny M A (comprehension e scope env pos na false fi use) Q E s := by
  have keep : ∀ {α : Type} {m : Sem α} {P P' : α → Shared → Prop} {t : Shared}, wpAny M A m P E t → (∀ v t', P v t' → P' v t') → wpAny M A m P' E t := fun w f => wpAny_mono w f fun _ _ z => z
  unfold comprehension
  rw [c3, c1]
  refine wpAny_bind (keep h fun x t1 h1 => wpAny_bind (wpAny_standAt (wpAny_bind (wpAny_of_eq (c2 x) (wpAny_bind (wpAny_holding (keep h1 fun it t2 h2 => wpAny_standIf (wpAny_bind (keep h2 fun acc t3 h3 => wpAny_bind (wpAny_pure (wpAny_bind (keep h3 fun ce t4 h4 => ?_))))))))))))
  dsimp only
  generalize hvs : (scope.names.filter fun x => (x.2 == .local || x.2 == .cell) && x.1 != (".0" : Str)) = vs
  have inN : ∀ x ∈ vs, x.2 = .local → Env.kindOf { ce with scope := relabel scope env } x.1 = some .local := fun x hx hl => lookup_relabel_local (c5 x (by rw [← hvs] at hx; exact (List.mem_filter.mp hx).1) hl)
  have inR : ∀ x ∈ vs.reverse, x.2 = .local → Env.kindOf { ce with scope := relabel scope env } x.1 = some .local := fun x hx => inN x (List.mem_reverse.mp hx)
  refine wpAny_holding (wpAny_bind (wpAny_attempt (wpAny_holding (wpAny_run (codeAny_mono h4 fun r t hr => ?_)))))
  cases r with
  | error x =>
    obtain ⟨m, hn, hq⟩ := hr
    exact wpAny_bind (wpAny_holding (wpAny_comp_letGo (cenv := { ce with scope := relabel scope env }) c4 _ t m inR hn fun g m' _ sb => wpAny_mono (hq g sb _ rfl rfl) (fun _ _ z => z.elim) fun _ _ z => z))
  | ok f =>
    cases use with
    | none =>
      obtain ⟨m, hn, hq⟩ := hr
      exact wpAny_bind (wpAny_holding (wpAny_comp_letGo (cenv := { ce with scope := relabel scope env }) c4 _ t m inR hn fun g m' _ sb => wpAny_pure (hq g sb)))
    | some u =>
      have hr' : wpAny M A (u acc) (fun _ t' => ∃ m, t'.heap.Ns ce.locals m ∧ ∀ g, Heap.SameBut ce.locals t'.heap g → Q .none { t' with heap := g }) E t := hr
      refine wpAny_bind (wpAny_rule (wpAny_bind (wpAny_holding (keep hr' fun _ t' hq => ?_))))
      obtain ⟨m, hn, hq⟩ := hq
      refine wpAny_bind (wpAny_comp_letGo (cenv := { ce with scope := relabel scope env }) c4 _ t' m (fun x hx => ?_) hn fun g m' _ sb => wpAny_pure (hq g sb))
      rcases List.mem_append.mp hx with z | z
      · exact inR x (List.mem_of_mem_drop z)
      · exact inR x (List.mem_of_mem_take z)
end
section
variable {M : Model} {A : Around} {E₁ : Value → Shared → Prop} {env : Env} {outer : List Env} {L a : Addr} {Z : Obj → Prop} {B : Heap} {s : Shared}
/-- a frame notes what flies, whoever held it -/
theorem note_any {fl : Value} {Q : Unit → Shared → Prop} (hZ : HandSPX.Steady Z) (hfr : A.frames = some (env :: outer)) (hf : env.frame = some L) (b1 : B.StaysIn s.heap) (b2 : B.get? a = none) (b3 : s.heap.FunFrames B (env :: outer)) (tr : HandSPX.TracedZ s.heap B a Z fl)
    (hQ : ∀ g, HandSPX.HeldZ B (env :: outer) a Z L g → s.heap.UpToSlots g → Q () { s with heap := g }) : wpAny M A (noteFrame (.ref a) env) Q E₁ s := by
  by_cases hfl : fl = rawInt L
  · subst hfl
    exact HandSPX.againZ hf tr (hQ s.heap ⟨b1, b2, b3, tr⟩ (Heap.UpToSlots.refl _))
  · obtain ⟨oe, vs, T, oT, ts, he, hz, hd, q1, nT, Ta, gT, dT, q3⟩ := tr
    have no : ¬ ((fl == rawInt L) = true) := fun z => hfl (beq_iff_eq.mp z)
    unfold noteFrame
    simp only [hf]
    refine wpAny_bind (wpAny_field he hd q1 ?_)
    rw [if_pos (by simp : (Value.ref T != Value.none) = true)]
    refine wpAny_bind (wpAny_field gT dT q3 ?_)
    rw [if_neg no]
    refine wpAny_bind (wpAny_setField gT dT (Array.getElem?_eq_some_iff.mp q3).1 ?_)
    have away : ∀ b, b ≠ T → (s.heap.update T (Obj.mapFields (·.setIfInBounds 3 Value.none))).get? b = s.heap.get? b := fun b hb => Heap.get?_update_other _ _ (Ne.symm hb)
    have plain : ∀ b o, s.heap.get? b = some o → (∀ vs, o.data ≠ .fields vs) → b ≠ T := fun b o hb hn z => by
      rw [z, gT] at hb
      cases hb
      exact hn ts dT
    refine HandSPX.wpAny_entryZ hZ hfr (b3.of_keeps fun b o hb hn => ⟨o, (away b (plain b o hb hn)).trans hb, rfl⟩) hf ((away a (Ne.symm Ta)).trans he) (fun b o hb => (away b fun z => by
      rw [z, nT] at hb
      cases hb).trans (b1 b o hb)) b2 hd (Array.getElem?_eq_some_iff.mp q1).1 hz fun g hN => ?_
    obtain ⟨y1, y2, y3, y4⟩ := hN
    exact hQ g ⟨y1, b2, y2, y3⟩ fun b o hb hn => y4 b o ((away b (plain b o hb hn)).trans hb) hn
/-- whatever is in the air, noted here -/
theorem note_sky {C : Addr} {Q : Unit → Shared → Prop} (hZ : HandSPX.Steady Z) (hfr : A.frames = some (env :: outer)) (hf : env.frame = some L) (x : Sky B (env :: outer) a Z C s.heap)
    (hQ : ∀ g, HandSPX.HeldZ B (env :: outer) a Z L g → s.heap.UpToSlots g → Q () { s with heap := g }) : wpAny M A (noteFrame (.ref a) env) Q E₁ s := by
  rcases x with ⟨h1, h2, h3, oe, vs, h4, h5, h6, h7⟩ | ⟨h1, h2, h3, h4⟩ | ⟨h1, h2, h3, h4⟩
  · exact HandSPX.look_newZ hZ hfr h3 hf h4 h1 h2 h6 h7 h5 hQ
  · exact note_any hZ hfr hf h1 h2 h3 h4 hQ
  · exact note_any hZ hfr hf h1 h2 h3 h4 hQ
end
/-- a block's context with a place for what is raised -/
abbrev blkx (X : Cx) (s : Shared) (H : Hp) (scope : Scope) (ce : Env) (fp : List Addr) (pn : List (Addr × Obj)) (xe : Value → Shared → Prop) : Cx := (X.blk s H scope ce fp).tr pn xe
theorem ff_move {h g B B' : Heap} {C : Addr} (hb : ∀ L, B.get? L = none → B'.get? L = none) (hh : ∀ L o, L ≠ C → h.get? L = some o → g.get? L = some o) : ∀ {l : List Env}, C ∉ frs l → h.FunFrames B l → g.FunFrames B' l
  | [], _, _ => True.intro
  | e :: r, hC, ⟨k, ⟨L, o, e1, e2, e3, e4⟩, q⟩ => by
    have hL : L ≠ C := fun z => hC (List.mem_filterMap.mpr ⟨e, List.mem_cons_self, by rw [e1, z]⟩)
    refine ⟨k, ⟨L, o, e1, hb L e2, hh L o hL e3, e4⟩, ff_move hb hh (fun z => hC ?_) q⟩
    obtain ⟨e', h1, h2⟩ := List.mem_filterMap.mp z
    exact List.mem_filterMap.mpr ⟨e', List.mem_cons_of_mem _ h1, h2⟩
theorem comp_err {X : Cx} {W W2 : WX} {pins : List (Addr × Obj)} {σ : L2.St} {H3 : Hp} {s3 s5 : Shared} {scope : Scope} {ce : Env} {fp : List Addr} {pn : List (Addr × Obj)} {xe : Value → Shared → Prop} {use : Option (Value → Sem Unit)} {Qf : Value → Shared → Prop} {acc u : Value}
    (tk : Takes X W) (hst : X.stack = X.env :: X.outer) (hf : X.env.frame = some X.env.locals) (hce : ce.frame = X.env.frame) (cL : ce.locals = s3.heap.objs.size) (I3 : Inv X pins σ H3 s3) (f3 : ∀ b ∈ fp, FpOk X pins H3 b)
    (hW : ∀ cls d σ' H', W2 cls d σ' H' → W cls d σ H') (x : XE (blkx X s3 H3 scope ce fp pn xe) W2 u s5) :
    notedBy (model X.prog X.w) X.A ce (fun e t => CPost (model X.prog X.w) X.A X.xe use Qf acc s3.heap.objs.size X.env.frame (.error e) t) u s5 := by
  obtain ⟨a, B, sI, ps1, σ1, H1, cls, d, rfl, J, nb, up, sky, na, os, bare, wish⟩ := x
  have frX : X.A.frames = some (X.env :: X.outer) := I3.ok.frames.trans (congrArg some hst)
  have same : (noteFrame (.ref a) ce : Sem Unit) = noteFrame (.ref a) X.env := by
    unfold PySem.noteFrame PySem.frameOf
    rw [hce]
  show wpAny _ _ (noteFrame (.ref a) ce) _ _ s5
  rw [same]
  have sky' : Sky B (X.env :: X.outer) a (Zc cls d) ce.locals s5.heap := by
    have z : Sky B X.stack a (Zc cls d) ce.locals s5.heap := sky
    rw [hst] at z
    exact z
  refine note_sky Zc.steady frX hf sky' fun g held up1 => ?_
  have J2 : Inv (blkx X s3 H3 scope ce fp pn xe) ps1 σ1 H1 { s5 with heap := g } := J.landed nb held.1 (up.trans up1) os bare
  obtain ⟨m, hn, _⟩ := J2.loc
  have hn : g.Ns ce.locals m := hn
  rw [cL] at hn
  refine ⟨m, hn, fun g2 sb c2 l2 fr2 => ?_⟩
  obtain ⟨h1, h2, h3, oe, vs, T, oT, ts, he, hz, hd, q1, nT, Ta, gT, dT, q3⟩ := held
  obtain ⟨oC, es, ep, eC, dC, _⟩ := id hn
  have aC : a ≠ s3.heap.objs.size := fun z => by
    rw [z] at he
    rw [he] at eC
    cases eC
    rw [hd] at dC
    cases dC
  have TC : T ≠ s3.heap.objs.size := fun z => by
    rw [z] at gT
    rw [gT] at eC
    cases eC
    rw [dT] at dC
    cases dC
  have notfr : s3.heap.objs.size ∉ frs X.stack := fun hm => by
    obtain ⟨_, o, e, _⟩ := I3.stack.mem hm
    exact absurd (Heap.lt_size e) (Nat.lt_irrefl _)
  have notfr' : s3.heap.objs.size ∉ frs (X.env :: X.outer) := by rw [← hst]; exact notfr
  obtain ⟨B', B1, B2⟩ := restrict B fun b => decide (b ≠ s3.heap.objs.size)
  obtain ⟨G, G1, G2⟩ := restrict sI.heap fun b => decide (b ≠ s3.heap.objs.size)
  have B1' : ∀ b, b ≠ s3.heap.objs.size → B'.get? b = B.get? b := fun b hb => B1 b (decide_eq_true hb)
  have B2' : B'.get? s3.heap.objs.size = none := B2 _ (by simp)
  have G1' : ∀ b, b ≠ s3.heap.objs.size → G.get? b = sI.heap.get? b := fun b hb => G1 b (decide_eq_true hb)
  have G2' : G.get? s3.heap.objs.size = none := G2 _ (by simp)
  have Bn : ∀ b, B.get? b = none → B'.get? b = none := fun b hb => by
    by_cases z : b = s3.heap.objs.size
    · rw [z]; exact B2'
    · rw [B1' b z]; exact hb
  have held2 : HandSPX.HeldZ B' (X.env :: X.outer) a (Zc cls d) X.env.locals g2 := by
    refine ⟨fun b o e => ?_, Bn a h2, ff_move Bn (fun b o hb e => (sb.2 b hb).trans e) notfr' h3, oe, vs, T, oT, ts, (sb.2 a aC).trans he, hz, hd, q1, Bn T nT, Ta, (sb.2 T TC).trans gT, dT, q3⟩
    by_cases z : b = s3.heap.objs.size
    · rw [z, B2'] at e
      cases e
    · rw [B1' b z] at e
      exact (sb.2 b z).trans (h1 b o e)
  have I7 : Inv X pins σ H1 sI := I3.call' (ch := fp) J.os J.base J.hok J.bare fun b hb => ⟨(f3 b hb).2.2.2.1, (f3 b hb).2.1, (f3 b hb).2.2.2.2.1, (f3 b hb).2.2.2.2.2⟩
  have nC : H1 s3.heap.objs.size = none := by
    have z : H1 ce.locals = none := J.free
    rw [cL] at z
    exact z
  obtain ⟨_, c2', _, c4', c5', c6'⟩ := I3.fpOk (Nat.le_refl _) nC
  have I8 : Inv X pins σ H1 { sI with heap := G } := I7.turned (t' := sI.toks) (it := s3.heap.objs.size) (fun b o hb e => (G1' b hb).trans e) nC c2' c4' c5' c6'
  have gone : ∀ b o, G.get? b = some o → b ≠ s3.heap.objs.size := fun b o e z => by
    rw [z, G2'] at e
    cases e
  unfold PySem.passOn
  refine wpAny_bind (wpAny_field ((sb.2 a aC).trans he) hd q1 ?_)
  rw [if_neg (by simp : ¬ ((Value.ref T == Value.none) = true))]
  have fin : wpAny (model X.prog X.w) X.A (setFlight (.ref a) (some X.env.locals)) (fun _ t => wpAny (model X.prog X.w) X.A (throw (.ref a) : Sem Value) (fun _ _ => False) X.xe t) X.xe { s5 with heap := g2 } := by
    refine HandSPX.setFlight_onZ held2 fun g3 held3 up3 => wpAny_throw (tk _ _ ?_)
    refine ⟨a, B', { sI with heap := G }, pins, σ, H1, cls, d, rfl, I8, fun b o e hb => ?_, fun b o e hd2 => ?_, .inr (.inr (by rw [hst]; exact held3)), na, os, bare, hW _ _ _ _ wish⟩
    · have z := gone b o e
      rw [B1' b z]
      exact nb b o (by rw [← G1' b z]; exact e) hb
    · have z := gone b o e
      obtain ⟨sl, e2⟩ := (up.trans up1) b o (by rw [← G1' b z]; exact e) hd2
      obtain ⟨sl2, e3⟩ := up3 b _ ((sb.2 b z).trans e2) hd2
      exact ⟨sl2, e3⟩
  rw [fr2, hf]
  first
    | exact wpAny_bind fin
    | exact wpAny_bind (wpAny_pure (wpAny_bind fin))
/-- the parts' reading in a block, whatever is wished of what they raise -/
def PEx (X : Cx) (scope : Scope) (e : Expr) (te : WX → TE) : Prop := ∀ (s : Shared) (H : Hp) (C : Addr) (cl : List (Str × Addr)) (fp : List Addr) (pn : List (Addr × Obj)) (xe : Value → Shared → Prop) (W2 : WX), Takes (blkx X s H scope (compEnvC scope cl C X.env) fp pn xe) W2 →
  PE (blkx X s H scope (compEnvC scope cl C X.env) fp pn xe) e (te W2)
def tLcX (wi : TI) (g : TG) (tt : TT) (te : WX → TE) (W : WX) (vs : List Nat) : TE := fun σ H Q => tLc wi g tt (te fun cls od _ H' => W cls od σ H') vs σ H Q
section
variable {X : Cx} {W : WX} {elt tg iter : Expr} {ifs : List Expr} {scope : Scope} {own : List (Str × Nat)} {pos : Pos} {wi : TI} {g : TG} {tt : TT} {te : WX → TE}
theorem pe_lcX (tk : Takes X W) (hst : X.stack = X.env :: X.outer) (hf : X.env.frame = some X.env.locals) (hc : X.calm = true) (hN : X.N.Nodup) (hi : PI X tg iter wi) (ok : BlkOk X.N X.env.scope scope own)
    (hg : ∀ (s : Shared) (H : Hp) (C : Addr) (cl : List (Str × Addr)) (fp : List Addr), PG (X.blk s H scope (compEnvC scope cl C X.env) fp) tg g) (ht : ∀ (s : Shared) (H : Hp) (C : Addr) (cl : List (Str × Addr)) (fp : List Addr), PTs (X.blk s H scope (compEnvC scope cl C X.env) fp) ifs tt)
    (he : PEx X scope elt te) (hs : ∀ x, foldedSetIterable iter X.env x = pure x := by intro _; rfl) : PE X (.ListComp elt [⟨tg, iter, ifs, 0⟩] scope pos) (tLcX wi g tt te W (own.map (·.2))) := by
  refine ⟨fun pins s σ H Q I h => ?_⟩
  rw [eval_ListComp]
  refine wpAny_compF (use := none) rfl hs (closure_ok fun y hy e => ?_) ok.kind (fun y hy e => by rw [ok.uniq y hy, e]) (thn (hi.run pins s σ H _ I h) fun xv t1 hx => thn hx fun itv t2 h2 => ?_)
  · rcases ok.free y hy e with k | k
    · exact I.ok.has _ (.inl k)
    · exact I.ok.has _ (.inr k)
  obtain ⟨it, fp, tn, J, H2, e, I2, T, z2, f2, q⟩ := h2
  subst e
  refine wpAny_newObj_type (newEnv_comp ?_) (by show 0 ≤ sizeLine; decide)
  obtain ⟨D, hD⟩ : ∃ D, t2.heap.objs.size = D := ⟨_, rfl⟩
  obtain ⟨V, ⟨m0, w0⟩, turn⟩ := q D (I2.hok.fresh (Nat.le_of_eq hD))
  rw [hD]
  obtain ⟨t3, ht3⟩ : ∃ t3 : Shared, ({ t2 with heap := t2.heap.push { cls := .type "list", data := .seq ([] : List Value).toArray } } : Shared) = t3 := ⟨_, rfl⟩
  have p3 : t3.heap = t2.heap.push { cls := .type "list", data := .seq ([] : List Value).toArray } := by rw [← ht3]
  have I3 : Inv X pins σ (upd H2 D (.lst [])) t3 := by
    rw [← ht3]
    exact I2.laid (t' := t2.toks) (fun b o z => Heap.get?_push_of_some _ z) (Nat.le_of_eq hD) ⟨Nat.zero_le _, [], 0, .nil, by rw [← hD]; exact Heap.get?_push_size _ rfl⟩
  have f3 : ∀ b ∈ fp, FpOk X pins (upd H2 D (.lst [])) b ∧ b < t3.heap.objs.size := fun b hb => by
    obtain ⟨o, z, _⟩ := T.obj _ _ z2 b hb
    have lt := Heap.lt_size z
    refine ⟨⟨?_, (f2 b hb).2⟩, by rw [p3, Heap.size_push]; exact Nat.lt_succ_of_lt lt⟩
    rw [upd_ne (by rw [← hD]; exact Nat.ne_of_lt lt)]
    exact (f2 b hb).1
  have z3 : tn 0 t3.heap := T.keep _ _ _ z2 fun b _ o z => by rw [p3]; exact Heap.get?_push_of_some _ z
  rw [ht3]
  have I4 := block_start I3 ok hN f3
  obtain ⟨cl, hcl⟩ : ∃ cl, cellsFrom (t3.heap.objs.size + 1) scope.names (cloFrom X.env.cells scope.names []) = cl := ⟨_, rfl⟩
  rw [hcl] at I4
  have pg := hg t3 (upd H2 D (.lst [])) t3.heap.objs.size cl fp
  have pt := ht t3 (upd H2 D (.lst [])) t3.heap.objs.size cl fp
  have pe := he t3 (upd H2 D (.lst [])) t3.heap.objs.size cl fp
  show codeAny _ _ (.compStart (.ListComp elt [⟨tg, iter, ifs, 0⟩] scope pos) 0 (.ref it) (.ref D) (compEnvC scope (cellsFrom (t3.heap.objs.size + 1) scope.names (cloFrom X.env.cells scope.names [])) t3.heap.objs.size X.env)) (CPost (model X.prog X.w) X.A X.xe none (EP X pins σ Q) (.ref D) t3.heap.objs.size X.env.frame) { t3 with heap := pushCells (t3.heap.push { cls := .type "dict", data := .dict #[] }) scope.names }
  rw [hcl]
  obtain ⟨ce, hce⟩ : ∃ ce, compEnvC scope cl t3.heap.objs.size X.env = ce := ⟨_, rfl⟩
  have cL : ce.locals = t3.heap.objs.size := by rw [← hce]; rfl
  have cF : ce.frame = X.env.frame := by rw [← hce]; rfl
  rw [hce] at I4 pg pt pe ⊢
  obtain ⟨H3, hH3⟩ : ∃ H3, upd H2 D (.lst []) = H3 := ⟨_, rfl⟩
  rw [hH3] at I3 I4 pg pt pe w0 f3
  obtain ⟨t4, ht4⟩ : ∃ t4 : Shared, ({ t3 with heap := pushCells (t3.heap.push { cls := .type "dict", data := .dict #[] }) scope.names } : Shared) = t4 := ⟨_, rfl⟩
  rw [ht4] at I4 ⊢
  have z4 : tn 0 t4.heap := T.keep _ _ _ z3 fun b _ o z => by rw [← ht4]; exact pushCells_keeps _ _ _ _ (Heap.get?_push_of_some _ z)
  have quiet : ∀ {σ' : L2.St} {H' : Hp} {t : Shared}, Inv (X.blk t3 H3 scope ce fp) [] σ' H' t → (∀ b ∈ fp, H' b = none) → ∀ b ∈ fp, FpOk (X.blk t3 H3 scope ce fp) [] H' b := fun {σ' H' t} I' n b hb =>
    ⟨n b hb, (I'.ok.exf b hb).1, I'.ok.exfs b hb, .inl hb, fun x c z => (I'.ok.exf b hb).2 x c z, fun p hp => absurd (show p ∈ ([] : List (Addr × Obj)) ++ [] from hp) (by simp)⟩
  have loop : codeAny (model X.prog X.w) X.A (.compLoop (.ListComp elt [⟨tg, iter, ifs, 0⟩] scope pos) 0 (.ref it) (.ref D) ce) (CPost (model X.prog X.w) X.A X.xe none (EP X pins σ Q) (.ref D) t3.heap.objs.size X.env.frame) t4 := by
    refine compLoop_any (fun n t => ∃ i H', Inv (X.blk t3 H3 scope ce fp) [] (wipe σ (own.map (·.2))) H' t ∧ tn i t.heap ∧ (∀ b ∈ fp, H' b = none) ∧ V i n H') ?_ m0 ⟨0, H3, I4, z4, fun b hb => (f3 b hb).1.1, w0⟩
    rintro n t5 ⟨i, H5, I5, z5, n5, w5⟩
    rcases turn i n H5 w5 with ⟨stop, qq⟩ | ⟨go, Nx, hNx, step⟩
    · refine thnF (T.done (X.blk t3 H3 scope ce fp) rfl rfl rfl hc i [] t5 _ H5 (fun _ _ => False) I5 (quiet I5 n5) z5 stop) fun r t6 ⟨hr, I6⟩ => ?_
      subst hr
      have I7 : Inv X pins σ H5 t6 := I3.call' (ch := fp) I6.os I6.base I6.hok I6.bare fun b hb => ⟨(f3 b hb).1.2.2.2.1, (f3 b hb).1.2.1, (f3 b hb).1.2.2.2.2.1, (f3 b hb).1.2.2.2.2.2⟩
      have nC : H5 t3.heap.objs.size = none := by
        have z : H5 ce.locals = none := I6.free
        rw [cL] at z
        exact z
      obtain ⟨m, hn, _⟩ := I6.loc
      have hn : t6.heap.Ns ce.locals m := hn
      rw [cL] at hn
      obtain ⟨k0, k1, k2, k3, k4, k5⟩ := I3.fpOk (Nat.le_refl _) nC
      exact ⟨m, hn, fun h'' sb => ⟨.ref D, H5, I7.turned (t' := t6.toks) (fun b o hb z => (sb.2 b hb).trans z) k0 k1 k3 k4 k5, rfl, qq⟩⟩
    · refine thnF (T.item (X.blk t3 H3 scope ce fp) rfl rfl rfl hc i [] t5 _ H5 (fun _ _ => False) I5 (quiet I5 n5) z5 go) fun r t6 ⟨u, hr, h6⟩ => ?_
      subst hr
      refine thnF h6 fun _ t7 ⟨x, H7, I7, r7, y7, z7, n7⟩ => ?_
      refine thnF (pg.run _ t7 _ H7 x u _ (I7.pinned (quiet I7 n7) (T.obj _ _ z7)) r7 (step x H7 y7)) fun _ t8 ⟨σ8, H8, I8, hw8, q8⟩ => ?_
      refine thnF (pt.run _ t8 σ8 H8 _ I8 q8) fun b t9 ⟨H9, I9, q9⟩ => ?_
      have next : ∀ {t : Shared} {H' : Hp}, Inv (X.blk t3 H3 scope ce fp) ([] ++ pinsAt fp t7.heap) σ8 H' t → Nx H' → ∃ m, m < n ∧ ∃ i H', Inv (X.blk t3 H3 scope ce fp) [] (wipe σ (own.map (·.2))) H' t ∧ tn i t.heap ∧ (∀ b ∈ fp, H' b = none) ∧ V i m H' := fun {t H'} I' nx => by
        obtain ⟨m', hm, w'⟩ := hNx H' nx
        have pin' : ∀ b ∈ fp, ∀ o, t7.heap.get? b = some o → t.heap.get? b = some o ∧ H' b = none := fun b hb o z =>
          let y := I'.pin (b, o) (List.mem_append_right _ (List.mem_append_right _ (mem_pinsAt hb z)))
          ⟨y.1, y.2.1⟩
        refine ⟨m', hm, i + 1, H', (I'.unpinned (pins := [])).weak (by rw [← hw8, wipe_length]) (fun j v z => ?_), T.keep _ _ _ z7 fun b hb o z => (pin' b hb o z).1, fun b hb => ?_, w'⟩
        · rw [← hw8] at z
          exact (wipe_some z).1
        · obtain ⟨o, z, _⟩ := T.obj _ _ z7 b hb
          exact (pin' b hb o z).2
      cases b with
      | false =>
        simp only [Bool.false_eq_true, if_false] at q9 ⊢
        exact next I9 q9
      | true =>
        simp only [if_true] at q9 ⊢
        have okB := I9.ok
        have tk2 : Takes (blkx X t3 H3 scope ce fp ((X.blk t3 H3 scope ce fp).pn ++ ([] ++ pinsAt fp t7.heap)) (notedBy (model X.prog X.w) X.A ce fun e t => CPost (model X.prog X.w) X.A X.xe none (EP X pins σ Q) (.ref D) t3.heap.objs.size X.env.frame (.error e) t)) (fun cls od _ H' => W cls od σ H') :=
          fun u t z => comp_err tk hst hf cF cL I3 (fun b hb => (f3 b hb).1) (fun _ _ _ _ y => y) z
        have run := (pe _ _ _ tk2).run [] t9 σ8 H9 _ (I9.toTry _) q9
        refine wpAny_mono run (fun z t10 ⟨yv, H10, I10, r10, acc, hD10, hz10, nx⟩ => ?_) fun _ _ y => y
        exact app_ok (X := X.blk t3 H3 scope ce fp) (I10.ofTry okB) hD10 hz10 r10 fun t11 I11 => next I11 nx
  exact codeAny_compStart_list loop (T.self X.A 0 _ _ _ z4 loop)
end
end Eng

set_option maxHeartbeats 2000000
/-! The engine, part 32: what a comprehension with parts that raise means. -/
namespace Eng
open PySem PySem.Spec PyProof.Rows L2
variable [TabCfg]
def lcG (it : ItD) (f : Ft) (mt : Mb) (m : Mx) (ρ : Env') (n : Nat) : Nat → Nat → Sto → R D
  | 0, _, S => if it.fin S = true then .ok (.ref n) S else .stuck
  | k + 1, i, S => match it.nx i S with
    | none => .stuck
    | some d => match f d ρ with
      | none => .stuck
      | some ρ1 => match mt ρ1 S with
        | .ok false S1 => lcG it f mt m ρ n k (i + 1) S1
        | .ok true S1 => match m ρ1 S1 with
          | .ok y S2 => match S2[n]? with
            | some (.lst acc) => if acc.length < sizeLine then lcG it f mt m ρ n k (i + 1) (S2.set n (.lst (acc ++ [y]))) else .stuck
            | _ => .stuck
          | .ex z S2 => .ex z S2
          | .stuck => .stuck
        | _ => .stuck
def mLcX (mi : Mi) (f : Ft) (mt : Mb) (m : Mx) (own : List Nat) : Mx := fun ρ S => (mi ρ S).bind fun it S1 => lcG it f mt m (wipeD ρ own) S1.length it.cnt 0 (S1 ++ [.lst []])
section
variable {X : Cx} {W : WX} {pos : Pos}
theorem lcx_of {mi : Mi} {f : Ft} {mt : Mb} {m : Mx} {own is : List Nat} {g : TG} (hg : ∀ v σ H Q, (∃ β S ρ d ρ', Rl X.K X.mg β H S ∧ En X.K X.mg β H ρ σ ∧ Vd X.K X.mg β H v d ∧ f d ρ = some ρ' ∧ ∀ vs, En X.K X.mg β H ρ' (setAllV is vs σ) → Q (setAllV is vs σ) H) → g v σ H Q) (his : ∀ i ∈ is, i ∈ own) {σ : L2.St} {H : Hp} {Q : VK} (h : tM X.K X.mg W (mLcX mi f mt m own) σ H Q) :
    tLcX (tMI X.K X.mg W mi) g (tMT X.K X.mg W0 mt) (fun W2 => tM X.K X.mg W2 m) W own σ H Q := by
  obtain ⟨β, S, ρ, rl, en, p⟩ := h
  refine ⟨β, S, ρ, rl, en, (Po.bind p).mono fun it β1 S1 H1 x1 r1 q J hJ Dl hD => ?_⟩
  obtain ⟨xn, rn, vn⟩ := r1.newL (ds := []) (vs := []) .nil hD
  refine ⟨fun i k H => ∃ β S, Xt X.K β1 H1 β H ∧ β[S1.length]? = some Dl ∧ Rl X.K X.mg β H S ∧ i + k = it.cnt ∧ Po X.K X.mg W σ β H (lcG it f mt m (wipeD ρ own) S1.length k i S) (fun d β' _ H' => ∀ v, Vd X.K X.mg β' H' v d → Q v H'), ⟨it.cnt, β1 ++ [Dl], S1 ++ [.lst []], xn, ?_, rn, Nat.zero_add _, q.xt xn⟩, ?_⟩
  · obtain ⟨a, e, h1⟩ := vn.ref_inv
    cases e
    exact h1
  rintro i k H2 ⟨β2, S2, x2, hL, r2, hm, p2⟩
  obtain ⟨h1, h2⟩ := hJ β2 H2 S2 x2 r2
  cases k with
  | zero =>
    unfold lcG at p2
    split at p2
    · rename_i hf
      have e : i = it.cnt := by omega
      subst e
      exact .inl ⟨h2 hf, p2 β2 H2 .refl r2 _ (.ref hL)⟩
    · exact p2.elim
  | succ k =>
    unfold lcG at p2
    cases e1 : it.nx i S2 with
    | none => rw [e1] at p2; exact p2.elim
    | some d =>
      rw [e1] at p2
      dsimp only at p2
      cases e2 : f d (wipeD ρ own) with
      | none => rw [e2] at p2; exact p2.elim
      | some ρ1 =>
        rw [e2] at p2
        dsimp only at p2
        obtain ⟨go, yld⟩ := h1 i d (by omega) e1
        refine .inr ⟨go, fun H => ∃ β S, Xt X.K β1 H1 β H ∧ β[S1.length]? = some Dl ∧ Rl X.K X.mg β H S ∧ (i + 1) + k = it.cnt ∧ Po X.K X.mg W σ β H (lcG it f mt m (wipeD ρ own) S1.length k (i + 1) S) (fun d β' _ H' => ∀ v, Vd X.K X.mg β' H' v d → Q v H'), fun H' w => ⟨k, Nat.lt_succ_self k, w⟩, fun v H3 hy => ?_⟩
        obtain ⟨x3, r3, hv⟩ := yld v H3 hy
        refine hg v _ H3 _ ⟨β2, S2, wipeD ρ own, d, ρ1, r3, ((en.ext (x1.trans (x2.trans x3))).wipe own), hv, e2, fun vs en2 => ⟨?_, β2, S2, ρ1, r3, en2, ?_⟩⟩
        · rw [wipe_setAll his, wipe_wipe fun i hi => hi]
        · cases e3 : mt ρ1 S2 with
          | ok b S3 =>
            rw [e3] at p2
            intro β4 H4 x4 r4
            cases b with
            | false =>
              rw [if_neg Bool.false_ne_true]
              exact ⟨β4, S3, (x2.trans x3).trans x4, x4.at' (x3.at' hL), r4, by omega, Po.xt p2 (x3.trans x4)⟩
            | true =>
              rw [if_pos rfl]
              dsimp only at p2
              refine ⟨β4, S3, ρ1, r4, en2.ext x4, ?_⟩
              cases e4 : m ρ1 S3 with
              | ok y S4 =>
                rw [e4] at p2
                dsimp only at p2
                intro β5 H5 x5 r5 w hw
                have hL5 : β5[S1.length]? = some Dl := x5.at' (x4.at' (x3.at' hL))
                split at p2
                · rename_i acc q4
                  split at p2
                  · rename_i hz
                    obtain ⟨us, h3, h4⟩ := r5.lst_at hL5 q4
                    obtain ⟨r6, x6⟩ := r5.write (o := .lst (us ++ [w])) (b' := .lst (acc ++ [y])) hL5 q4 rfl rfl fun x => ⟨_, upd_same, (h4.append (.cons hw .nil)).ext x⟩
                    exact ⟨us, h3, by rw [h4.length]; exact hz, β5, _, (((x2.trans x3).trans x4).trans x5).trans x6, x6.at' hL5, r6, by omega, Po.xt p2 (((x3.trans x4).trans x5).trans x6)⟩
                  · exact p2.elim
                · exact p2.elim
              | ex z S4 =>
                rw [e4] at p2
                exact fun cls od β5 H5 x5 r5 xd => p2 cls od β5 H5 ((x3.trans x4).trans x5) r5 xd
              | stuck => rw [e4] at p2; exact p2.elim
          | ex z S3 => rw [e3] at p2; exact p2.elim
          | stuck => rw [e3] at p2; exact p2.elim
theorem me_lcx {elt tg iter : Expr} {ifs : List Expr} {scope : Scope} {own : List (Str × Nat)} {mi : Mi} {f : Ft} {mt : Mb} {m : Mx} {is : List Nat} (tk : Takes X W) (hN : X.N.Nodup) (hi : MI X W tg iter mi) (ok : BlkOk X.N X.env.scope scope own)
    (hg : ∀ (s : Shared) (H : Hp) (C : Addr) (cl : List (Str × Addr)) (fp : List Addr), MGc (X.blk s H scope (compEnvC scope cl C X.env) fp) tg is f)
    (ht : ∀ (s : Shared) (H : Hp) (C : Addr) (cl : List (Str × Addr)) (fp : List Addr), MTs (X.blk s H scope (compEnvC scope cl C X.env) fp) W0 ifs mt)
    (he : ∀ (s : Shared) (H : Hp) (C : Addr) (cl : List (Str × Addr)) (fp : List Addr) (pn : List (Addr × Obj)) (xe : Value → Shared → Prop) (W2 : WX), Takes (blkx X s H scope (compEnvC scope cl C X.env) fp pn xe) W2 → ME (blkx X s H scope (compEnvC scope cl C X.env) fp pn xe) W2 elt m)
    (his : ∀ i ∈ is, i ∈ own.map (·.2) := by decide) (hc : X.calm = true := by rfl) (hst : X.stack = X.env :: X.outer := by rfl) (hf : X.env.frame = some X.env.locals := by rfl) (hs : ∀ x, foldedSetIterable iter X.env x = pure x := by intro _; rfl) :
    ME X W (.ListComp elt [⟨tg, iter, ifs, 0⟩] scope pos) (mLcX mi f mt m (own.map (·.2))) :=
  ⟨PE.weak (pe_lcX tk hst hf hc hN hi.pi ok (fun s H C cl fp => (hg s H C cl fp).pg) (fun s H C cl fp => (ht s H C cl fp).pts) (te := fun W2 => tM X.K X.mg W2 m) (fun s H C cl fp pn xe W2 t => (he s H C cl fp pn xe W2 t).pe) hs) fun σ H Q h => lcx_of (fun v σ H Q h => h) his h⟩
end
/-- such a comprehension by an invariant: it ends, or one of its parts raises -/
theorem lcg_inv {it : ItD} {f : Ft} {m : Mx} {ρ : Env'} {n : Nat} (P : Nat → Sto → Prop) (Rz : Exn → Sto → Prop) (step : ∀ i S, i < it.cnt → P i S → ∃ d ρ1, it.nx i S = some d ∧ f d ρ = some ρ1 ∧
      ((∃ x S2, m ρ1 S = .ex x S2 ∧ Rz x S2) ∨ ∃ y S2 acc, m ρ1 S = .ok y S2 ∧ S2[n]? = some (.lst acc) ∧ acc.length < 16777216 ∧ P (i + 1) (S2.set n (.lst (acc ++ [y])))))
    (fin : ∀ S, P it.cnt S → it.fin S = true) {S : Sto} (h0 : P 0 S) : (∃ S', lcG it f mYes m ρ n it.cnt 0 S = .ok (.ref n) S' ∧ P it.cnt S') ∨ ∃ x S', lcG it f mYes m ρ n it.cnt 0 S = .ex x S' ∧ Rz x S' := by
  have key : ∀ k i S, i + k = it.cnt → P i S → (∃ S', lcG it f mYes m ρ n k i S = .ok (.ref n) S' ∧ P it.cnt S') ∨ ∃ x S', lcG it f mYes m ρ n k i S = .ex x S' ∧ Rz x S' := by
    intro k
    induction k with
    | zero =>
      intro i S hi h
      have e : i = it.cnt := by omega
      subst e
      exact .inl ⟨S, by rw [lcG, if_pos (fin S h)], h⟩
    | succ k ih =>
      intro i S hi h
      obtain ⟨d, ρ1, e1, e2, e3⟩ := step i S (by omega) h
      rw [lcG, e1]
      dsimp only
      rw [e2]
      dsimp only
      rw [show mYes ρ1 S = R.ok true S from rfl]
      dsimp only
      rcases e3 with ⟨x, S2, e4, e5⟩ | ⟨y, S2, acc, e4, e5, e6, e7⟩
      · rw [e4]
        exact .inr ⟨x, S2, rfl, e5⟩
      · rw [e4]
        dsimp only
        rw [e5]
        dsimp only
        rw [if_pos (show acc.length < sizeLine by rw [sizeLine_eq]; exact e6)]
        exact ih (i + 1) _ (by omega) e7
  exact key it.cnt 0 S (by omega) h0
end Eng

set_option maxHeartbeats 2000000
/-! The engine, part 33: list(reversed(xs)), xs.pop(), a field's function called, defs that call themselves. -/
namespace Eng
open PySem PySem.Spec PyProof.Rows L2
section
variable {prog : Program} {w : World} {A : Around} {E : Value → Shared → Prop} {s : Shared}
theorem extend_rev {it l S : Addr} {items : Array Value} {res : Value} {R : Result → Shared → Prop} {c₀ : Nat} (hh : A.handled = none) (hit : s.heap.IsRevIter it l ((items.size : Int) - 1)) (hl : s.heap.IsList l items) (hn : items.size ≤ sizeLine)
    (hSi : S ≠ it) (hSl : S ≠ l) (hne : l ≠ it) (hS : s.heap.get? S = some { cls := .type "list", data := .seq #[] c₀ })
    (hR : ∀ (h' : Heap) (tk : Nat) (acc : Array Value) (c' : Nat), (∀ b o, b ≠ it → b ≠ S → s.heap.get? b = some o → h'.get? b = some o) → h'.get? S = some { cls := .type "list", dict := none, data := .seq acc c', slots := #[] } →
      ItemsOf (fun i v => items[items.size - 1 - i]? = some v) acc items.size → R (.ok (.ret res)) { s with heap := h', toks := tk }) :
    wpAny (model prog w) A.in1 (Builtin.List.listExtendWith (.ref S) (.ref it) res)
      (fun fin s' => match fin with | .done f => R (.ok f) s' | .again c' => c'.quiet = true ∧ codeAny (model prog w) A c' R s') (fun e s' => R (.error e) s') s := by
  have W := (Walks.listRev (prog := prog) (w := w) (A := A.in1) hh it l hne items).toS
  have hSf : S ∉ [it, l] := by simp only [List.mem_cons, List.not_mem_nil, or_false, not_or]; exact ⟨hSi, hSl⟩
  have hT : s.TypeIs (.ref it) "list_reverseiterator" := hit.typeIs
  have h1 : Builtin.List.listSameRef (.ref S) (.ref it) = false := by simp [Builtin.List.listSameRef, hSi]
  unfold Builtin.List.listExtendWith
  refine wpAny_bind (wpAny_typeOf hT ?_)
  rw [if_neg (by rw [h1]; decide)]
  refine wpAny_bind (wpAny_pyIter_revIter hit ?_)
  refine wpAny_bind (wpAny_holding ?_)
  unfold Builtin.List.listLengthHint
  refine wpAny_bind (wpAny_specialOf hT RT.nolen_lri ?_)
  show wpAny _ A.in1 (specialOf (Value.ref it) (Str.ofString "__length_hint__") >>= _) _ _ _
  refine wpAny_bind (wpAny_specialOf hT RT.hint_lri ?_)
  generalize hid : ("list_reverseiterator.__length_hint__" : String) = id0
  wp_delta
  rw [show splitId id0 = some ("list_reverseiterator", "__length_hint__") from by subst hid; decide +kernel]
  subst hid
  refine wpAny_bind (wpAny_isInstance (b := true) hT (by rw [isSubtype_type]; kernel_rfl) ?_)
  refine wpAny_pure ?_
  rw [if_neg (by decide)]
  have e0 : ((items.size : Nat) : Int) - 1 - ((0 : Nat) : Int) = (items.size : Int) - 1 := by omega
  refine wpAny_pure ⟨plainId_quiet F.plain_extend_loop _, codeAny_extend_loopS W hn _ hSf _ items.size 0 _ _ _ rfl (Nat.zero_le _) ⟨Nat.zero_le _, by rw [e0]; exact hit, hl⟩ hS (ItemsOf.nil _) fun s' acc' c' hm hS' hacc => ?_⟩
  rw [Moved.eq_with hm]
  refine hR s'.heap s'.toks acc' c' (fun b o h1 h2 e => hm.heap b o (fun hmem => ?_) e) hS' hacc
  rcases List.mem_cons.mp hmem with e' | hmem
  · exact h2 e'
  · exact h1 (List.mem_singleton.mp hmem)
theorem call_list_rev {it l : Addr} {items : Array Value} {Q : Value → Shared → Prop} (hh : A.handled = none) (hit : s.heap.IsRevIter it l ((items.size : Int) - 1)) (hl : s.heap.IsList l items) (hne : l ≠ it) (hn : items.size ≤ sizeLine)
    (hQ : ∀ (h' : Heap) (tk : Nat) (acc : Array Value) (c' : Nat), (∀ b o, b ≠ it → s.heap.get? b = some o → h'.get? b = some o) → h'.get? s.heap.objs.size = some { cls := .type "list", dict := none, data := .seq acc c', slots := #[] } →
      ItemsOf (fun i v => items[items.size - 1 - i]? = some v) acc items.size → Q (.ref s.heap.objs.size) { s with heap := h', toks := tk }) :
    wpAny (model prog w) A (call (.type "list") [.ref it]) Q E s := by
  obtain ⟨oi, hoi, _⟩ := id hit
  obtain ⟨ol, hol, _⟩ := id hl
  have hSi : s.heap.objs.size ≠ it := Nat.ne_of_gt (Heap.lt_size hoi)
  have hSl : s.heap.objs.size ≠ l := Nat.ne_of_gt (Heap.lt_size hol)
  refine callType_codes (Q₁ := fun obj s₁ => obj = .ref s.heap.objs.size ∧ s₁ = { s with heap := s.heap.push { cls := .type "list", data := .seq #[] } }) F.called_list (F.typeCall_list_1 _) F.entry_list_init
    (code_list_new _ ⟨rfl, rfl⟩) fun obj s₁ h₁ => ?_
  obtain ⟨rfl, rfl⟩ := h₁
  have hS : (s.heap.push { cls := .type "list", data := .seq #[] }).get? s.heap.objs.size = some { cls := .type "list", data := .seq #[] } := Heap.get?_push_size _ rfl
  refine ⟨⟨_, hS, rfl⟩, F.args_list_init_2 _ _, ?_⟩
  have hit1 : (s.heap.push { cls := .type "list", data := .seq #[] }).IsRevIter it l ((items.size : Int) - 1) := hit.at fun o e => Heap.get?_push_of_some _ e
  have hl1 : (s.heap.push { cls := .type "list", data := .seq #[] }).IsList l items := hl.push _
  show wpAny _ A.in1.in1 (do let old ← Builtin.List.listItems (.ref s.heap.objs.size); Builtin.List.listUpdate (.ref s.heap.objs.size) (fun _ => #[]); letGo old.toList.reverse; Builtin.List.listExtendWith (.ref s.heap.objs.size) (.ref it) .none) _ _ _
  refine wpAny_bind ?_
  unfold Builtin.List.listItems
  refine wpAny_bind (wpAny_seqItems hS rfl (wpAny_pure ?_))
  show wpAny _ _ (updateSeq s.heap.objs.size (fun _ => #[]) >>= fun _ => letGo (#[] : Array Value).toList.reverse >>= fun _ => Builtin.List.listExtendWith (.ref s.heap.objs.size) (.ref it) .none) _ _ _
  refine wpAny_bind (wpAny_updateSeq hS rfl ?_)
  have hS₂ := Heap.get?_update_self (Obj.mapSeq (fun _ => (#[] : Array Value))) hS rfl
  have oth : ∀ b o, b ≠ s.heap.objs.size → (s.heap.push { cls := .type "list", data := .seq #[] }).get? b = some o → ((s.heap.push { cls := .type "list", data := .seq #[] }).update s.heap.objs.size (Obj.mapSeq (fun _ => (#[] : Array Value)))).get? b = some o :=
    fun b o hb e => (Heap.get?_update_other _ _ (Ne.symm hb)).trans e
  refine wpAny_bind (wpAny_letGo ?_)
  have hit2 : ((s.heap.push { cls := .type "list", data := .seq #[] }).update s.heap.objs.size (Obj.mapSeq (fun _ => (#[] : Array Value)))).IsRevIter it l ((items.size : Int) - 1) := hit1.at fun o e => oth it o hSi.symm e
  have hl2 : ((s.heap.push { cls := .type "list", data := .seq #[] }).update s.heap.objs.size (Obj.mapSeq (fun _ => (#[] : Array Value)))).IsList l items := by
    obtain ⟨o, e, r⟩ := hl1
    exact ⟨o, oth l o hSl.symm e, r⟩
  refine extend_rev (A := A.in1) hh hit2 hl2 hn hSi hSl hne hS₂ fun h' tk acc' c' hk hS' hacc => ?_
  exact ⟨rfl, hQ h' tk acc' c' (fun b o hb e => hk b o hb (Nat.ne_of_lt (Heap.lt_size e)) (oth b o (Nat.ne_of_lt (Heap.lt_size e)) (Heap.get?_push_of_some _ e))) hS' hacc⟩
end
section
variable {X : Cx}
def tLstRev (K : PySem.W.Frag) (te : TE) : TE := fun σ H Q => te σ H fun v H1 => ∃ (a : Addr) (xs : List V), v = .ref a ∧ SqL K H1 a xs ∧ ∀ q, H1 q = none → Q (.ref q) (upd H1 q (.lst xs.reverse))
theorem pe_lstRev {e : Expr} {te : TE} {p p2 pos pos2 : Pos} (hc : X.calm = true) (hg : Gl X "list") (hm : X.mg "list" = none) (hg2 : Gl X "reversed") (hm2 : X.mg "reversed" = none) (he : PE X e te)
    (hs : starEach [e] X.env = (false, eval e X.env) :: starEach [] X.env := by rfl)
    (hs2 : starEach [.Call (.Name "reversed" p2) [e] [] pos2] X.env = (false, eval (.Call (.Name "reversed" p2) [e] [] pos2) X.env) :: starEach [] X.env := by rfl) :
    PE X (.Call (.Name "list" p) [.Call (.Name "reversed" p2) [e] [] pos2] [] pos) (tLstRev X.K te) := by
  refine ⟨fun pins s σ H Q I h => ?_⟩
  refine Call_ (ld_blt I hg hm boot_list (PyProof.Rows.callWith_type1 (args_cons (Call_ (ld_blt I hg2 hm2 PyProof.Rows.boot_reversed (PyProof.Rows.callWith_type1 (args_cons (thn (he.run pins s σ H _ I h) fun u s1 ⟨v, H1, I1, r1, q1⟩ => args_nil ?_) hs) hs rfl))) hs2) hs2 rfl))
  obtain ⟨a, xs, ev, hq, q⟩ := q1
  subst ev
  obtain rfl : u = Value.ref a := r1
  obtain ⟨its, rv, p', hz⟩ := I1.list hq
  refine call_reversed_list p'.isList (args_nil ?_)
  have k0 : ∀ b o, s1.heap.get? b = some o → (s1.heap.push (revObj a ((its.toArray.size : Int) - 1))).get? b = some o := fun b o e => Heap.get?_push_of_some _ e
  have I2 : Inv X pins σ H1 { s1 with heap := s1.heap.push (revObj a ((its.toArray.size : Int) - 1)) } := I1.kept (t' := s1.toks) k0
  obtain ⟨f0, f1, f2, f3, f4, f5⟩ := I1.fpOk (H' := H1) (b := s1.heap.objs.size) (Nat.le_refl _) (I1.hok.fresh (Nat.le_refl _))
  have hl := p'.isList
  obtain ⟨ol, hol, _⟩ := id hl
  have hne : a ≠ s1.heap.objs.size := Nat.ne_of_lt (Heap.lt_size hol)
  have hn : its.toArray.size ≤ sizeLine := by rw [List.size_toArray, ← rv.length]; exact hz
  refine call_list_rev (s := { s1 with heap := s1.heap.push (revObj a ((its.toArray.size : Int) - 1)) }) (I1.ok.hd hc) ⟨_, Heap.get?_push_size _ rfl, rfl, rfl⟩ (hl.push _) hne hn fun h' tk acc c' hk hS' hi => ?_
  have hfr : H1 (s1.heap.push (revObj a ((its.toArray.size : Int) - 1))).objs.size = none := I2.hok.fresh (Nat.le_refl _)
  refine ⟨.ref (s1.heap.push (revObj a ((its.toArray.size : Int) - 1))).objs.size, upd H1 (s1.heap.push (revObj a ((its.toArray.size : Int) - 1))).objs.size (.lst xs.reverse), I2.turnedNew (t' := tk) (ch := [s1.heap.objs.size]) (fun b o hb e => hk b o (by simpa using hb) e) (fun b hb => ?_) (Nat.le_refl _) ⟨by rw [List.length_reverse]; exact hz, acc.toList, c', RT.vals_rev rv hi, ?_⟩, rfl, q _ hfr⟩
  · rw [List.mem_singleton.mp hb]
    exact ⟨f0, f1, f2, f3, f4, f5⟩
  · rw [Array.toArray_toList]
    exact hS'
end
variable [TabCfg]
section
variable {X : Cx} {W : WX} {o e : Expr} {es : List Expr} {m mo : Mx} {ma : Ma} {pos p p2 pos2 apos : Pos}
/-! ### list(reversed(xs)) -/
def lstRev (d : D) (S : Sto) : R D := match d with
  | .ref n => match lstAt S n with
    | some xs => .ok (.ref S.length) (S ++ [.lst xs.reverse])
    | none => .stuck
  | _ => .stuck
def mLstRev (m : Mx) : Mx := fun ρ S => (m ρ S).bind lstRev
theorem Vds.rev {K : PySem.W.Frag} {mg : Str → Option Value} {β : List Addr} {H : Hp} : ∀ {vs : List V} {ds : List D}, Vds K mg β H vs ds → Vds K mg β H vs.reverse ds.reverse
  | _, _, .nil => .nil
  | _, _, .cons h t => by
    rw [List.reverse_cons, List.reverse_cons]
    exact Vds.append (Vds.rev t) (.cons h .nil)
theorem me_lstRev (hc : X.calm = true) (hm : X.mg "list" = none) (hm2 : X.mg "reversed" = none) (h : ME X W e m) (hg : Gl X "list" := by rfl) (hg2 : Gl X "reversed" := by rfl)
    (hs : starEach [e] X.env = (false, eval e X.env) :: starEach [] X.env := by rfl)
    (hs2 : starEach [.Call (.Name "reversed" p2) [e] [] pos2] X.env = (false, eval (.Call (.Name "reversed" p2) [e] [] pos2) X.env) :: starEach [] X.env := by rfl) :
    ME X W (.Call (.Name "list" p) [.Call (.Name "reversed" p2) [e] [] pos2] [] pos) (mLstRev m) := by
  refine ⟨PE.weak (pe_lstRev hc hg hm hg2 hm2 h.pe hs hs2) fun σ H Q ⟨β, S, ρ, rl, en, q⟩ => ⟨β, S, ρ, rl, en, (Po.bind q).mono fun d β1 S1 H1 x1 r1 q1 v hv => ?_⟩⟩
  unfold lstRev at q1
  cases d with
  | ref n =>
    obtain ⟨a, rfl, h1⟩ := hv.ref_inv
    dsimp only at q1
    cases q2 : lstAt S1 n with
    | none => rw [q2] at q1; exact q1.elim
    | some xs =>
      rw [q2] at q1
      obtain ⟨vs, h2, h3⟩ := lst_read r1 h1 q2
      refine ⟨a, vs, rfl, h2, fun l hl => ?_⟩
      obtain ⟨xn, rn, vn⟩ := r1.newL h3.rev hl
      exact q1 _ _ xn rn _ vn
  | _ => exact q1.elim
/-! ### xs.pop() -/
def fPop : FM
  | .ref n, [], S => match S[n]? with
    | some (.lst xs) => match xs[xs.length - 1]? with
      | some d => some (d, S.set n (.lst xs.dropLast))
      | none => none
    | _ => none
  | _, _, _ => none
theorem Vds.dropLast {K : PySem.W.Frag} {mg : Str → Option Value} {β : List Addr} {H : Hp} : ∀ {vs : List V} {ds : List D}, Vds K mg β H vs ds → Vds K mg β H vs.dropLast ds.dropLast
  | _, _, .nil => .nil
  | _, _, .cons h .nil => .nil
  | _, _, .cons h (.cons h2 t) => .cons h (Vds.dropLast (.cons h2 t))
theorem o_pop : OpM X "list" ckL rPop fPop := by
  refine ⟨fun β H S o v r h e => ckL_ok r h e, ?_⟩
  intro β H S o v xs vs d S' Q r ho hv e k
  match o, xs, e, ho, hv with
  | .ref n, [], e, ho, hv =>
    obtain ⟨a, rfl, h1⟩ := ho.ref_inv
    cases hv
    unfold fPop at e
    dsimp only at e
    split at e
    · rename_i ds q
      split at e
      · rename_i y hy
        cases e
        obtain ⟨us, h3, h4⟩ := r.lst_at h1 q
        obtain ⟨z, g1, g2⟩ := h4.get hy
        refine ⟨a, us, z, rfl, rfl, h3, by rw [h4.length]; exact g1, ?_⟩
        obtain ⟨r', x'⟩ := r.write (o := .lst us.dropLast) (b' := .lst ds.dropLast) h1 q rfl rfl fun x => ⟨_, upd_same, h4.dropLast.ext x⟩
        exact k β _ _ x' r' (g2.ext x')
      · cases e
    · cases e
theorem me_lpop (ho : ME X W o mo) (hbase : attributeBase o "pop" X.env (eval o X.env) = eval o X.env := by rfl) (hline : (apos.endLine == pos.line) = true := by rfl) : ME X W (.Call (.Attribute o "pop" apos) [] [] pos) (mBM ckL fPop mo mNil) :=
  me_bm0 PySem.F.plainAttrs_list PySem.F.slot_list_pop PySem.F.type_list_pop mt_pop o_pop ho hbase hline
/-! ### o.f(..), f a field that holds a function -/
noncomputable def mCallF (tab : VTab) (f : Str) (mo : Mx) (ma : Ma) : Mx := fun ρ S => (mo ρ S).bind fun o S1 => (fldD f o S1).bind fun g S2 => if isFn g S2 = true then (ma ρ S2).bind fun ds S3 => callV tab g ds S3 else .stuck
theorem fld_of {β : List Addr} {H : Hp} {S S' : Sto} {od d : D} {v : V} {f : Str} (r : Rl X.K X.mg β H S) (hv : Vd X.K X.mg β H v od) (e : fldD f od S = .ok d S') :
    S' = S ∧ ∃ a Ca dx xs u, v = .ref a ∧ H a = some (.ins Ca dx xs) ∧ Cls X.K Ca ∧ NoAttr X.K Ca f ∧ xs.lookup f = some u ∧ Vd X.K X.mg β H u d := by
  unfold fldD at e
  cases od with
  | ref n =>
    obtain ⟨a, rfl, h1⟩ := hv.ref_inv
    dsimp only at e
    cases e1 : S[n]? with
    | none => rw [e1] at e; cases e
    | some ob =>
      rw [e1] at e
      cases ob with
      | ins C fs =>
        dsimp only at e
        cases e2 : fs.lookup f with
        | none => rw [e2] at e; cases e
        | some d' =>
          rw [e2] at e
          cases e
          obtain ⟨Ca, dx, xs, g1, g2, g3, g4, g5⟩ := ins_of r h1 e1
          obtain ⟨w, g6, g7⟩ := g3.look e2
          obtain ⟨pp, g8, g9⟩ := mem_of_look e2
          exact ⟨rfl, a, Ca, dx, xs, w, rfl, g2, g4, by rw [← g9]; exact g5 pp g8, g6, g7⟩
      | _ => cases e
  | _ => cases e
theorem me_callf {pl : Sem Bool} {j n : Nat} {tab : VTab} {f : Str} (t : VOk X j n tab) (hr : Room j X.A) (ho : ME X W o mo) (tk : Takes X W) (ha : MA X W (e :: es) ma) (hl : ∀ β H vs ds ρ S S', Vds X.K X.mg β H vs ds → ma ρ S = .ok ds S' → vs.length = n)
    (he : starEach (e :: es) X.env = (false, eval e X.env) :: starEach es X.env := by rfl) (hpl : (backTo pos (starEach es X.env)).any (·.1) = false := by rfl)
    (ht : eval (.Call (.Attribute o f apos) (e :: es) [] pos) X.env = ((eval o X.env).bind fun ov => (standAt apos.atName).bind fun _ => (holding [ov] (getMethod ov f pl)).bind fun q => callWith pos q.1 q.2 (backTo pos (starEach (e :: es) X.env)) (backToKw pos (keywordEach [] X.env))) := by rfl) :
    ME X W (.Call (.Attribute o f apos) (e :: es) [] pos) (mCallF tab f mo ma) := by
  refine ⟨⟨fun pins s σ H Q I ⟨β, S, ρ, rl, en, q⟩ => ?_⟩⟩
  have q := (show Po X.K X.mg W σ β H ((mo ρ S).bind fun o S1 => (fldD f o S1).bind fun g S2 => if isFn g S2 = true then (ma ρ S2).bind fun ds S3 => callV tab g ds S3 else .stuck) _ from q).bind
  have step : tM X.K X.mg W mo σ H fun x H1 => ∃ β1 S1 od gd, Rl X.K X.mg β1 H1 S1 ∧ En X.K X.mg β1 H1 ρ σ ∧ Vd X.K X.mg β1 H1 x od ∧ fldD f od S1 = .ok gd S1 ∧ isFn gd S1 = true ∧ Po X.K X.mg W σ β1 H1 ((ma ρ S1).bind fun ds S2 => callV tab gd ds S2) fun d β' _ H' => ∀ v, Vd X.K X.mg β' H' v d → Q v H' := by
    refine ⟨β, S, ρ, rl, en, q.mono fun od β1 S1 H1 x1 r1 q1 v hv => ?_⟩
    cases e1 : fldD f od S1 with
    | ok gd S2 =>
      rw [e1] at q1
      obtain ⟨rfl, _⟩ := fld_of r1 hv e1
      have q1 : Po X.K X.mg W σ β1 H1 (if isFn gd S2 = true then (ma ρ S2).bind fun ds S3 => callV tab gd ds S3 else .stuck) _ := q1
      split at q1
      · rename_i hf
        exact ⟨β1, S2, od, gd, r1, en.ext x1, hv, e1, hf, q1⟩
      · exact q1.elim
    | ex z S2 =>
      unfold fldD at e1
      split at e1
      · split at e1
        · split at e1 <;> cases e1
        · cases e1
      · cases e1
    | stuck => rw [e1] at q1; exact q1.elim
  refine PySem.W.methodCall_KW (pl := pl) (thn (ho.pe.run pins s σ H _ I step) fun u s1 ⟨x, H1, I1, rx, β1, S1, od, gd, r1, en1, hv, e1, hf, q1⟩ => ?_) ht
  obtain ⟨_, a, Ca, dx, xs, gv, ex, ea, cl, na, lk, hg⟩ := fld_of r1 hv e1
  subst ex
  obtain rfl : u = Value.ref a := rx
  obtain ⟨mA, O, _, _, _, _⟩ := ins_get I1.hok ea
  obtain ⟨od', J, _⟩ := O.look
  obtain ⟨fa, U, cl', c, rfl, g1⟩ := fn_ref r1 hg hf
  refine PySem.W.method_usual (r := none) I1.kIn J (PySem.W.plainGet_of (cl.get f)).1 (PySem.W.plainGet_of (cl.get f)).2 na rfl (getattr_ok I1 ea cl na lk fun u' s2 I2 ru => ?_)
  obtain rfl : u' = Value.ref fa := ru
  have q2 := q1.bind
  have step2 : tMA X.K X.mg W ma σ H1 fun vs H2 => vs.length = n ∧ ∃ β2 S2 ds, Rl X.K X.mg β2 H2 S2 ∧ Vds X.K X.mg β2 H2 vs ds ∧ Xt X.K β1 H1 β2 H2 ∧ Po X.K X.mg W σ β2 H2 (callV tab gd ds S2) fun d β' _ H' => ∀ v, Vd X.K X.mg β' H' v d → Q v H' := by
    refine ⟨β1, S1, ρ, r1, en1, ?_⟩
    cases e2 : ma ρ S1 with
    | ok ds S2 =>
      rw [e2] at q2
      exact fun β2 H2 x2 r2 vs hvs => ⟨hl β2 H2 vs ds ρ S1 S2 hvs e2, β2, S2, ds, r2, hvs, x2, q2 β2 H2 x2 r2⟩
    | ex z S2 => rw [e2] at q2; exact q2
    | stuck => rw [e2] at q2; exact q2
  refine PySem.W.callWith_F (first := []) (fnq_fnAt I2.hok g1) (thn (ha.pa.run pos pins s2 σ H1 _ I2 step2) fun us s3 ⟨vs, H2, I3, r, hn, β2, S2, ds, r2, hvs, x2, q3⟩ => ⟨fnq_fnAt I3.hok (x2.fnq _ _ _ _ g1), ?_⟩) he hpl
  exact callV_run t hr tk I3 r2 (hg.ext x2) r hvs hn q3
end
/-! ### a def that calls itself: nothing is promised at first -/
theorem fn_stuck {P : Program} {w : World} {K : PySem.W.Frag} {mg : Str → Option Value} {base : Heap} {k n : Nat} {f : Addr} {fd : FuncData} {ps : List Str} (hn : ps.length = n := by rfl) : FnOk P w K mg base (L2.CX P w) k f fd ps (spM K mg n fun _ _ => .stuck) :=
  ⟨fun vs H Q E h => h.1.trans hn.symm, fun A outer s H args us vs Q E hr he hb hv h => by
    obtain ⟨_, β, S, ds, _, _, q⟩ := h
    exact q.elim⟩
/-! ### simp rows -/
section
variable {ρ : Env'} {S : Sto} {m mo : Mx} {ma : Ma} {f : Str} {tab : VTab} {n : Nat}
@[simp] theorem ev_lstRev : mLstRev m ρ S = (m ρ S).bind lstRev := rfl
@[simp] theorem lstRev_ref : lstRev (.ref n) S = match lstAt S n with
    | some xs => .ok (.ref S.length) (S ++ [.lst xs.reverse])
    | none => .stuck := rfl
@[simp] theorem fPop_ev : fPop (.ref n) [] S = match S[n]? with
    | some (.lst xs) => match xs[xs.length - 1]? with
      | some d => some (d, S.set n (.lst xs.dropLast))
      | none => none
    | _ => none := rfl
@[simp] theorem ev_callf : mCallF tab f mo ma ρ S = (mo ρ S).bind fun o S1 => (fldD f o S1).bind fun g S2 => if isFn g S2 = true then (ma ρ S2).bind fun ds S3 => callV tab g ds S3 else .stuck := rfl
end
end Eng

set_option maxHeartbeats 2000000
/-! The engine, part 34: what is never reached; range with a step. -/
namespace Eng
open PySem PySem.Spec PyProof.Rows L2
variable [TabCfg]
section
variable {X : Cx} {W : WX}
/-- nothing is promised of it -/
def sNever : Ms := fun _ _ => .stuck
def mNever : Mx := fun _ _ => .stuck
theorem ms_never {s : Stmt} : MS X W s sNever := ⟨⟨fun pins s σ H D I ⟨β, S, ρ, rl, en, q⟩ => (show False from q).elim⟩⟩
theorem me_never {e : Expr} : ME X W e mNever := ⟨⟨fun pins s σ H Q I ⟨β, S, ρ, rl, en, q⟩ => (show False from q).elim⟩⟩
/-! ### range with a step -/
def itC (lo c : Int) (n : Nat) : ItD := ⟨n, fun i _ => some (.int (lo + (i : Nat) * c)), fun _ => true⟩
theorem itC_ok {K : PySem.W.Frag} {mg : Str → Option Value} {β : List Addr} {H : Hp} {lo c : Int} {n : Nat} : ItOk K mg β H (Itc lo c n) (itC lo c n) := by
  intro β' H' S' x r
  refine ⟨fun i d hi hd => ⟨hi, fun y H'' hy => ?_⟩, fun _ => Nat.le_refl _⟩
  obtain ⟨rfl, rfl⟩ := hy
  cases hd
  exact ⟨.refl, r, .int _⟩
noncomputable def rg3 (ds : List D) (S : Sto) : R ItD := match ds with
  | [.int a, .int b, .int c] => if (decide (c ≠ 0) && decide (c.natAbs < 1073741824) && Builtin.Range.small a b c && decide (0 ≤ Builtin.Range.rangeSize a b c)) = true then .ok (itC a c (Builtin.Range.rangeSize a b c).toNat) S else .stuck
  | _ => .stuck
noncomputable def mRange3 (m : Ma) : Mi := fun ρ S => (m ρ S).bind rg3
theorem mi_range3 {tg a b c : Expr} {ma mb mc : Mx} {p pos : Pos} (hm : X.mg "range" = none) (h1 : ME X W a ma) (h2 : ME X W b mb) (h3 : ME X W c mc) (hg : Gl X "range" := by rfl) (hs : starEach [a, b, c] X.env = (false, eval a X.env) :: starEach [b, c] X.env := by rfl)
    (hs2 : starEach [b, c] X.env = (false, eval b X.env) :: starEach [c] X.env := by rfl) (hs3 : starEach [c] X.env = [(false, eval c X.env)] := by rfl) (hpl : (backTo pos (starEach [b, c] X.env)).any (·.1) = false := by rfl) :
    MI X W tg (.Call (.Name "range" p) [a, b, c] [] pos) (mRange3 (mCons ma (mCons mb (mCons mc mNil)))) := by
  have hA : MA X W [a, b, c] (mCons ma (mCons mb (mCons mc mNil))) := ma_cons h1 (ma_cons h2 (ma_cons h3 ma_nil hs3) hs2) hs
  refine ⟨PI.weak (pi_range3 hg hm hA.pa hs hpl) fun σ H Q ⟨β, S, ρ, rl, en, q⟩ => ⟨β, S, ρ, rl, en, (Po.bind q).mono fun ds β1 S1 H1 x1 r1 q1 vs hv => ?_⟩⟩
  unfold rg3 at q1
  split at q1
  · rename_i i j k
    obtain ⟨v1, v2, v3, rfl, w1, w2, w3⟩ := hv.three
    cases w1
    cases w2
    cases w3
    split at q1
    · rename_i h
      simp only [Bool.and_eq_true, decide_eq_true_eq] at h
      exact ⟨i, j, k, _, rfl, ⟨h.1.1.1, h.1.1.2, h.1.2, by have := h.2; omega⟩, q1 β1 H1 .refl r1 _ itC_ok⟩
    · exact q1.elim
  · exact q1.elim
@[simp] theorem ev_range3 {ρ : Env'} {S : Sto} {m : Ma} : mRange3 m ρ S = (m ρ S).bind rg3 := rfl
theorem rg3_ev {a b c : Int} {n : Nat} {S : Sto} (h : (decide (c ≠ 0) && decide (c.natAbs < 1073741824) && Builtin.Range.small a b c && decide (0 ≤ Builtin.Range.rangeSize a b c)) = true) (hn : (Builtin.Range.rangeSize a b c).toNat = n) : rg3 [.int a, .int b, .int c] S = .ok (itC a c n) S := by
  unfold rg3
  dsimp only
  rw [if_pos h, hn]
end
end Eng

set_option maxHeartbeats 2000000
/-! The engine, part 35: zip(reversed(a list), reversed(a tuple)), of one length. -/
namespace Eng
open PySem PySem.Spec PyProof.Rows L2
section
variable {prog : Program} {w : World} {A : Around} {E : Value → Shared → Prop} {s : Shared}
theorem nextOf_lri_item {it l : Addr} {i : Nat} {items : Array Value} {x : Value} {Q : Value → Shared → Prop} (hit : s.heap.IsRevIter it l (i : Int)) (hl : s.heap.IsList l items) (hx : items[i]? = some x)
    (hQ : ∀ h', h'.IsRevIter it l ((i : Int) - 1) → Heap.SameBut it s.heap h' → Q x { s with heap := h' }) : wpAny (model prog w) A (Builtin.SmallTypes.nextOf (.ref it)) Q E s := by
  obtain ⟨o, ho, hc, hd⟩ := id hit
  obtain ⟨ol, hol, _, nl, hdl⟩ := hl
  unfold Builtin.SmallTypes.nextOf
  refine wpAny_bind (wpAny_callSpecial?_slot (name := Str.ofString "__next__") hit.typeIs F.slot_lri_next
    (wpAny_call_entry F.slot_lri_next hit.typeIs F.entry_lri_next ?_ (F.args_lri_next_1 _)))
  unfold Builtin.«list_reverseiterator.__next__»
  refine wpAny_bind (wpAny_of_eq (a := (Value.ref it, [])) rfl ?_)
  try dsimp only
  refine wpAny_bind (wpAny_field ho hd (x := rawInt (i : Int)) rfl ?_)
  show wpAny _ _ (if (i : Int) < 0 then _ else _) _ _ s
  rw [if_neg (by omega)]
  show wpAny _ _ (field (.ref it) 0 >>= _) _ _ s
  refine wpAny_bind (wpAny_field ho hd (x := .ref l) rfl ?_)
  show wpAny _ _ (seqItems? (.ref l) >>= _) _ _ s
  refine wpAny_bind (wpAny_seqItems hol hdl ?_)
  simp only [Int.toNat_natCast, hx]
  refine wpAny_bind (wpAny_setField ho hd (by simp) ?_)
  first
  | refine wpAny_pure ⟨x, rfl, wpAny_pure (hQ _ ?_ (Heap.SameBut.update ..))⟩
  | refine wpAny_bind (wpAny_pure (wpAny_pure ⟨x, rfl, wpAny_pure (hQ _ ?_ (Heap.SameBut.update ..))⟩))
  exact ⟨_, Heap.get?_update_self _ ho (Obj.isFreed_of_fields (Obj.data_mapFields hd _)), (Obj.cls_mapFields ..).trans hc, by
    rw [Obj.data_mapFields hd]; simp⟩
theorem nextOf_lri_end {it l : Addr} {Q : Value → Shared → Prop} (hh : A.handled = none) (hit : s.heap.IsRevIter it l (-1))
    (hE : ∀ h' e, Heap.ExtBut it s.heap h' → (∃ o, h'.get? e = some o ∧ o.cls = .type "StopIteration") → E (.ref e) { s with heap := h' }) :
    wpAny (model prog w) A (Builtin.SmallTypes.nextOf (.ref it)) Q E s := by
  obtain ⟨o, ho, hc, hd⟩ := id hit
  unfold Builtin.SmallTypes.nextOf
  refine wpAny_bind (wpAny_callSpecial?_slot (name := Str.ofString "__next__") hit.typeIs F.slot_lri_next
    (wpAny_call_entry F.slot_lri_next hit.typeIs F.entry_lri_next ?_ (F.args_lri_next_1 _)))
  unfold Builtin.«list_reverseiterator.__next__»
  refine wpAny_bind (wpAny_of_eq (a := (Value.ref it, [])) rfl ?_)
  try dsimp only
  refine wpAny_bind (wpAny_field ho hd (x := rawInt (-1)) rfl ?_)
  show wpAny _ _ (if (-1 : Int) < 0 then _ else _) _ _ s
  rw [if_pos (by decide)]
  refine wpAny_bind (wpAny_rule ?_)
  first
  | show wpAny _ _ (newExc (.type "StopIteration") [] >>= _) _ _ _
  | (refine wpAny_bind ?_; show wpAny _ _ (newExc (.type "StopIteration") [] >>= _) _ _ _)
  refine wpAny_bind ?_
  simp only [newExc, newTuple]
  refine wpAny_bind (wpAny_newObj_type ?_ (by size_fits))
  refine wpAny_bind (m := firstArgMember _ _) (wpAny_of_eq (a := Value.none) (by first | rfl | (simp only [firstArgMember]; rfl)) ?_)
  refine wpAny_newObj_type ?_ (by size_fits)
  simp only [raiseNew]
  refine wpAny_bind (wpAny_handled ?_)
  first | rw [show A.in1.handled = none from hh] | rw [hh]
  refine wpAny_bind (wpAny_pure (wpAny_throw ?_))
  exact hE _ _ (((Heap.ExtBut.refl _ _).push _).push _) ⟨_, Heap.get?_push_size _ rfl, rfl⟩
theorem nextOf_rt_item {it t : Addr} {i : Nat} {items : Array Value} {x : Value} {Q : Value → Shared → Prop} (hit : RT.IsRt s.heap it t (i : Int)) (ht : IsTup s.heap t items) (hx : items[i]? = some x) (hsz : items.size ≤ sizeLine)
    (hQ : ∀ h', RT.IsRt h' it t ((i : Int) - 1) → Heap.SameBut it s.heap h' → Q x { s with heap := h', toks := s.toks + 1 }) : wpAny (model prog w) A (Builtin.SmallTypes.nextOf (.ref it)) Q E s := by
  obtain ⟨o, ho, hc, hd⟩ := id hit
  have hi : i < items.size := (Array.getElem?_eq_some_iff.mp hx).1
  have hT : s.TypeIs (.ref t) "tuple" := RT.IsTup.typeOf' ht
  rw [sizeLine_eq] at hsz
  unfold Builtin.SmallTypes.nextOf
  refine wpAny_bind (wpAny_callSpecial?_slot (name := Str.ofString "__next__") hit.typeIs RT.slot_rt_next
    (wpAny_call_entry RT.slot_rt_next hit.typeIs RT.entry_rt_next ?_ (RT.args_rt_next _)))
  unfold Builtin.«reversed.__next__»
  refine wpAny_bind (wpAny_of_eq (a := (Value.ref it, [])) rfl ?_)
  try dsimp only
  refine wpAny_bind (wpAny_field ho hd (x := .ref t) rfl ?_)
  try dsimp only
  refine wpAny_bind (wpAny_field ho hd (x := rawInt (i : Int)) rfl ?_)
  show wpAny _ _ (if (i : Int) < 0 then _ else _) _ _ s
  rw [if_neg (by omega)]
  try dsimp only
  refine wpAny_bind (wpAny_specialOf hT RT.get_tuple ?_)
  try dsimp only
  try rw [if_neg (by decide)]
  try dsimp only
  refine wpAny_bind (wpAny_mkInt ?_)
  refine wpAny_bind (wpAny_attempt ?_)
  have fin : seqIndex? (i : Int) items.size = some i := seqIndex_of (by omega) (by omega)
  refine PyProof.Rows.getItem_tuple (s := { s with toks := s.toks + 1 }) ht (by omega) (by omega) fin hx ?_
  try dsimp only
  refine wpAny_bind (wpAny_field (s := { s with toks := s.toks + 1 }) ho hd (x := rawInt (i : Int)) rfl ?_)
  try dsimp only
  refine wpAny_bind (wpAny_setField (s := { s with toks := s.toks + 1 }) ho hd (by simp) ?_)
  first
  | refine wpAny_pure ⟨x, rfl, wpAny_pure (hQ _ ?_ (Heap.SameBut.update ..))⟩
  | refine wpAny_bind (wpAny_pure (wpAny_pure ⟨x, rfl, wpAny_pure (hQ _ ?_ (Heap.SameBut.update ..))⟩))
  exact ⟨_, Heap.get?_update_self _ ho (Obj.isFreed_of_fields (Obj.data_mapFields hd _)), (Obj.cls_mapFields ..).trans hc, by
    rw [Obj.data_mapFields hd]; simp⟩
open RZ in
theorem zipR_next_item {z TI TO i1 i2 l1 l2 : Addr} {k : Nat} {xs ys : Array Value} {x y a b : Value} {Q : Value → Shared → Prop} (D : ZipApart z TI TO i1 i2 l1 l2)
    (hz : IsZip s.heap z TI TO .none) (hTI : IsPair s.heap TI (.ref i1) (.ref i2)) (hTO : IsPair s.heap TO a b)
    (h1 : s.heap.IsRevIter i1 l1 (k : Int)) (h2 : RT.IsRt s.heap i2 l2 (k : Int)) (hl1 : s.heap.IsList l1 xs) (hl2 : IsTup s.heap l2 ys) (hx : xs[k]? = some x) (hy : ys[k]? = some y) (hsz : ys.size ≤ sizeLine)
    (hQ : ∀ h' tk, IsZip h' z TI TO (rawInt s.heap.objs.size) → IsPair h' TO x y → h'.IsRevIter i1 l1 ((k : Int) - 1) → RT.IsRt h' i2 l2 ((k : Int) - 1) → IsPair h' s.heap.objs.size x y → h'.objs.size = s.heap.objs.size + 1 →
      (∀ c o, c ≠ z → c ≠ TO → c ≠ i1 → c ≠ i2 → s.heap.get? c = some o → h'.get? c = some o) → Q (.ref s.heap.objs.size) { s with heap := h', toks := tk }) :
    wpAny (model prog w) A (Builtin.«zip.__next__» ⟨[.ref z], []⟩) (fun fin s' => ∃ v, fin = .done (.ret v) ∧ Q v s') E s := by
  show wpAny _ _ (field (.ref z) 2 >>= _) _ _ _
  refine wpAny_bind (wpAny_field hz rfl (x := .bool false) rfl ?_)
  show wpAny _ _ (field (.ref z) 3 >>= _) _ _ _
  refine wpAny_bind (wpAny_field hz rfl (x := .ref TI) rfl ?_)
  refine wpAny_bind (wpAny_seqItems hTI rfl ?_)
  show wpAny _ _ (Builtin.SmallTypes.ownedTupleIsFree (.ref z) >>= _) _ _ _
  refine wpAny_bind ?_
  unfold Builtin.SmallTypes.ownedTupleIsFree
  refine wpAny_bind (wpAny_field hz rfl (x := .none) rfl (wpAny_pure ?_))
  simp only [if_true]
  refine wpAny_bind (wpAny_rule ?_)
  refine wpAny_bind (wpAny_field hz rfl (x := .ref TO) rfl ?_)
  refine wpAny_bind (wpAny_setField_rec hz (by simp) fun h₁ hz₁ hs₁ => ?_)
  replace hz₁ : IsZip h₁ z TI TO .ellipsis := hz₁
  refine wpAny_bind ?_
  simp only [List.zipIdx_cons, List.zipIdx_nil, List.forIn_cons, List.forIn_nil]
  refine wpAny_bind (wpAny_bind (wpAny_onRaise ?_))
  show wpAny _ _ (Builtin.SmallTypes.nextOf (.ref i1) >>= _) _ _ _
  have hl1' : Heap.IsList h₁ l1 xs := by
    obtain ⟨o, e, r⟩ := hl1
    exact ⟨o, hs₁.extBut _ _ D.l1z e, r⟩
  refine wpAny_bind (nextOf_lri_item (h1.at fun o e => hs₁.extBut _ _ D.i1z e) hl1' hx fun h₂ h1₂ hs₂ => wpAny_pure ?_)
  have hTO₂ : IsPair h₂ TO a b := hs₂.extBut _ _ D.TOi1 (hs₁.extBut _ _ D.TOz hTO)
  refine wpAny_bind (wpAny_seqItems hTO₂ rfl ?_)
  refine wpAny_bind (wpAny_updateSeq_pair hTO₂ fun h₃ hTO₃ hs₃ => ?_)
  replace hTO₃ : IsPair h₃ TO x b := hTO₃
  refine wpAny_bind (wpAny_letGo (wpAny_pure ?_))
  refine wpAny_bind (wpAny_bind (wpAny_onRaise ?_))
  show wpAny _ _ (Builtin.SmallTypes.nextOf (.ref i2) >>= _) _ _ _
  have up2 : ∀ c o, c ≠ z → c ≠ i1 → c ≠ TO → s.heap.get? c = some o → h₃.get? c = some o := fun c o c1 c2 c3 e => hs₃.extBut _ _ c3 (hs₂.extBut _ _ c2 (hs₁.extBut _ _ c1 e))
  have hl2' : IsTup h₃ l2 ys := by
    obtain ⟨o, e, r⟩ := hl2
    exact ⟨o, up2 _ _ D.l2z D.l2i1 D.l2TO e, r⟩
  refine wpAny_bind (nextOf_rt_item (s := { s with heap := h₃ }) (h2.at fun o e => up2 _ _ D.i2z D.i12.symm D.TOi2.symm e) hl2' hy hsz fun h₄ h2₄ hs₄ => wpAny_pure ?_)
  have hTO₄ : IsPair h₄ TO x b := hs₄.extBut _ _ D.TOi2 hTO₃
  refine wpAny_bind (wpAny_seqItems hTO₄ rfl ?_)
  refine wpAny_bind (wpAny_updateSeq_pair hTO₄ fun h₅ hTO₅ hs₅ => ?_)
  replace hTO₅ : IsPair h₅ TO x y := hTO₅
  refine wpAny_bind (wpAny_letGo (wpAny_pure (wpAny_pure ?_)))
  refine wpAny_bind (wpAny_seqItems hTO₅ rfl ?_)
  refine wpAny_bind (wpAny_newTuple ?_)
  have hsz : h₅.objs.size = s.heap.objs.size := by rw [hs₅.1, hs₄.1, hs₃.1, hs₂.1, hs₁.1]
  have hz₅ : IsZip h₅ z TI TO .ellipsis := hs₅.extBut _ _ D.TOz.symm (hs₄.extBut _ _ D.i2z.symm (hs₃.extBut _ _ D.TOz.symm (hs₂.extBut _ _ D.i1z.symm hz₁)))
  have hk₅ : ∀ c o, c ≠ z → c ≠ TO → c ≠ i1 → c ≠ i2 → s.heap.get? c = some o → h₅.get? c = some o := fun c o c1 c2 c3 c4 e =>
    hs₅.extBut _ _ c2 (hs₄.extBut _ _ c4 (hs₃.extBut _ _ c2 (hs₂.extBut _ _ c3 (hs₁.extBut _ _ c1 e))))
  have h1₅ : h₅.IsRevIter i1 l1 ((k : Int) - 1) := h1₂.at fun o e => hs₅.extBut _ _ D.TOi1.symm (hs₄.extBut _ _ D.i12 (hs₃.extBut _ _ D.TOi1.symm e))
  have h2₅ : RT.IsRt h₅ i2 l2 ((k : Int) - 1) := h2₄.at fun o e => hs₅.extBut _ _ D.TOi2.symm e
  have hzlt : z < h₅.objs.size := Heap.lt_size hz₅
  have hTOlt : TO < h₅.objs.size := Heap.lt_size hTO₅
  show wpAny _ _ (Builtin.SmallTypes.ownedTupleHandOut (.ref z) (.ref h₅.objs.size) >>= _) _ _ _
  refine wpAny_bind ?_
  unfold Builtin.SmallTypes.ownedTupleHandOut
  have hz₆ : IsZip (h₅.push { cls := .type "tuple", data := .seq #[x, y] }) z TI TO .ellipsis := Heap.get?_push_of_some _ hz₅
  refine wpAny_bind (wpAny_setField_rec hz₆ (by simp) fun h₇ hz₇ hs₇ => ?_)
  replace hz₇ : IsZip h₇ z TI TO (rawInt h₅.objs.size) := hz₇
  refine wpAny_setField_rec hz₇ (by simp) fun h₈ hz₈ hs₈ => ?_
  replace hz₈ : IsZip h₈ z TI TO (rawInt h₅.objs.size) := hz₈
  have up : ∀ c o, c ≠ z → h₅.get? c = some o → h₈.get? c = some o := fun c o c1 e => hs₈.extBut _ _ c1 (hs₇.extBut _ _ c1 (Heap.get?_push_of_some _ e))
  have hT₈ : IsPair h₈ h₅.objs.size x y := hs₈.extBut _ _ (Nat.ne_of_gt hzlt) (hs₇.extBut _ _ (Nat.ne_of_gt hzlt) (Heap.get?_push_size _ rfl))
  have hz8 : h₈.objs.size = h₅.objs.size + 1 := by rw [hs₈.1, hs₇.1, Heap.size_push]
  rw [hsz] at hz₈ hT₈ hz8
  refine wpAny_pure ⟨_, rfl, ?_⟩
  show Q (.ref h₅.objs.size) _
  rw [hsz]
  exact hQ h₈ _ hz₈ (up _ _ D.TOz hTO₅) (h1₅.at fun o e => up _ o D.i1z e) (h2₅.at fun o e => up _ o D.i2z e) hT₈ hz8 fun c o c1 c2 c3 c4 e => up c o c1 (hk₅ c o c1 c2 c3 c4 e)
theorem zipR_next_end {z TI TO i1 i2 l1 l2 : Addr} {a b : Value} {Q : Fin → Shared → Prop} (hh : A.handled = none) (D : ZipApart z TI TO i1 i2 l1 l2)
    (hz : IsZip s.heap z TI TO .none) (hTI : IsPair s.heap TI (.ref i1) (.ref i2)) (hTO : IsPair s.heap TO a b) (h1 : s.heap.IsRevIter i1 l1 (-1))
    (hE : ∀ h' e, (∀ c o, c ≠ z → c ≠ TO → c ≠ i1 → c ≠ i2 → s.heap.get? c = some o → h'.get? c = some o) → (∃ o, h'.get? e = some o ∧ o.cls = .type "StopIteration") → E (.ref e) { s with heap := h' }) :
    wpAny (model prog w) A (Builtin.«zip.__next__» ⟨[.ref z], []⟩) Q E s := by
  show wpAny _ _ (field (.ref z) 2 >>= _) _ _ _
  refine wpAny_bind (wpAny_field hz rfl (x := .bool false) rfl ?_)
  show wpAny _ _ (field (.ref z) 3 >>= _) _ _ _
  refine wpAny_bind (wpAny_field hz rfl (x := .ref TI) rfl ?_)
  refine wpAny_bind (wpAny_seqItems hTI rfl ?_)
  show wpAny _ _ (Builtin.SmallTypes.ownedTupleIsFree (.ref z) >>= _) _ _ _
  refine wpAny_bind ?_
  unfold Builtin.SmallTypes.ownedTupleIsFree
  refine wpAny_bind (wpAny_field hz rfl (x := .none) rfl (wpAny_pure ?_))
  simp only [if_true]
  refine wpAny_bind (wpAny_rule ?_)
  refine wpAny_bind (wpAny_field hz rfl (x := .ref TO) rfl ?_)
  refine wpAny_bind (wpAny_setField_rec hz (by simp) fun h₁ hz₁ hs₁ => ?_)
  replace hz₁ : IsZip h₁ z TI TO .ellipsis := hz₁
  refine wpAny_bind ?_
  simp only [List.zipIdx_cons, List.zipIdx_nil, List.forIn_cons, List.forIn_nil]
  refine wpAny_bind (wpAny_bind (wpAny_onRaise ?_))
  show wpAny _ _ (Builtin.SmallTypes.nextOf (.ref i1) >>= _) _ _ _
  refine wpAny_bind (nextOf_lri_end hh (h1.at fun o e => hs₁.extBut _ _ D.i1z e) fun h₂ e hs₂ he => ?_)
  obtain ⟨oe, hoe, hce⟩ := he
  have hz₂ : IsZip h₂ z TI TO .ellipsis := hs₂ _ _ D.i1z.symm hz₁
  have hez : e ≠ z := fun x => by subst x; rw [hz₂] at hoe; cases hoe; simp at hce
  refine wpAny_setField_rec hz₂ (by simp) fun h₃ _ hs₃ => hE h₃ e (fun c o c1 _ c3 _ x => hs₃.extBut _ _ c1 (hs₂ _ _ c3 (hs₁.extBut _ _ c1 x))) ⟨oe, hs₃.extBut _ _ hez hoe, hce⟩
theorem pyNext_zipR_item {z TI TO i1 i2 l1 l2 : Addr} {k : Nat} {xs ys : Array Value} {x y a b : Value} {Q : Option Value → Shared → Prop} (D : ZipApart z TI TO i1 i2 l1 l2)
    (hz : IsZip s.heap z TI TO .none) (hTI : IsPair s.heap TI (.ref i1) (.ref i2)) (hTO : IsPair s.heap TO a b)
    (h1 : s.heap.IsRevIter i1 l1 (k : Int)) (h2 : RT.IsRt s.heap i2 l2 (k : Int)) (hl1 : s.heap.IsList l1 xs) (hl2 : IsTup s.heap l2 ys) (hx : xs[k]? = some x) (hy : ys[k]? = some y) (hsz : ys.size ≤ sizeLine)
    (hQ : ∀ h' tk, IsZip h' z TI TO (rawInt s.heap.objs.size) → IsPair h' TO x y → h'.IsRevIter i1 l1 ((k : Int) - 1) → RT.IsRt h' i2 l2 ((k : Int) - 1) → IsPair h' s.heap.objs.size x y → h'.objs.size = s.heap.objs.size + 1 →
      (∀ c o, c ≠ z → c ≠ TO → c ≠ i1 → c ≠ i2 → s.heap.get? c = some o → h'.get? c = some o) → Q (some (.ref s.heap.objs.size)) { s with heap := h', toks := tk }) :
    wpAny (model prog w) A (pyNext (.ref z)) Q E s := by
  have hT : s.TypeIs (.ref z) "zip" := ⟨_, hz, rfl⟩
  unfold pyNext
  exact wpAny_bind (wpAny_attempt (wpAny_callSpecial?_slot (name := Str.ofString "__next__") hT F.slot_zip_next
    (wpAny_call_entry F.slot_zip_next hT F.entry_zip_next
      (zipR_next_item D hz hTI hTO h1 h2 hl1 hl2 hx hy hsz fun h' tk a1 a2 a3 a4 a5 a6 a7 => wpAny_pure (hQ h' tk a1 a2 a3 a4 a5 a6 a7)) (F.args_zip_next_1 _))))
theorem pyNext_zipR_end {z TI TO i1 i2 l1 l2 : Addr} {a b : Value} {Q : Option Value → Shared → Prop} (hh : A.handled = none) (D : ZipApart z TI TO i1 i2 l1 l2)
    (hz : IsZip s.heap z TI TO .none) (hTI : IsPair s.heap TI (.ref i1) (.ref i2)) (hTO : IsPair s.heap TO a b) (h1 : s.heap.IsRevIter i1 l1 (-1))
    (hQ : ∀ h', (∀ c o, c ≠ z → c ≠ TO → c ≠ i1 → c ≠ i2 → s.heap.get? c = some o → h'.get? c = some o) → Q none { s with heap := h' }) : wpAny (model prog w) A (pyNext (.ref z)) Q E s := by
  have hT : s.TypeIs (.ref z) "zip" := ⟨_, hz, rfl⟩
  unfold pyNext
  refine wpAny_bind (wpAny_attempt (wpAny_callSpecial?_slot (name := Str.ofString "__next__") hT F.slot_zip_next
    (wpAny_call_entry F.slot_zip_next hT F.entry_zip_next (zipR_next_end hh D hz hTI hTO h1 fun h' e hk he => ?_) (F.args_zip_next_1 _))))
  obtain ⟨o, ho, hc⟩ := he
  refine wpAny_bind (wpAny_isInstance (T := "StopIteration") (b := true) ⟨o, ho, hc⟩ isSubtype_stop ?_)
  exact wpAny_pure (hQ _ hk)
end
abbrev zR3 (h : Heap) (i1 i2 : Addr) : Heap := h.push { cls := .type "tuple", data := .seq #[.ref i1, .ref i2] }
abbrev zR4 (h : Heap) (i1 i2 : Addr) : Heap := (zR3 h i1 i2).push { cls := .type "tuple", data := .seq #[.none, .none] }
abbrev zR5 (h : Heap) (i1 i2 : Addr) : Heap := (zR4 h i1 i2).push { cls := .type "zip", data := .fields #[.none, .bool false, .bool false, .ref h.objs.size, .ref (zR3 h i1 i2).objs.size] }
theorem meets_zipR_new (i1 i2 l1 l2 : Addr) (j1 j2 : Int) :
    Meets (Builtin.«zip.__new__» ⟨[.type "zip", .ref i1, .ref i2], []⟩) (fun _ R s => s.heap.IsRevIter i1 l1 j1 ∧ RT.IsRt s.heap i2 l2 j2 ∧
      R (.ok (.ret (.ref (zR4 s.heap i1 i2).objs.size))) { s with heap := zR5 s.heap i1 i2 }) :=
  .of_wp fun prog w A R s h => by
    obtain ⟨hp, g, d, tk, os⟩ := s; obtain ⟨hl1, hl2, h⟩ := h
    have hsub := sub_zip
    have hL1 : Heap.IsRevIter (Shared.heap ⟨hp, g, d, tk, os⟩) i1 l1 j1 := hl1
    have hL2 : RT.IsRt (Shared.heap ⟨hp, g, d, tk, os⟩) i2 l2 j2 := hl2
    wp_walk using wpAny_pyIter_revIter hL1, RT.iter_rt hL2
    exact ⟨_, rfl, h⟩
section
variable {prog : Program} {w : World} {A : Around} {E : Value → Shared → Prop} {s : Shared}
theorem call_zipR {i1 i2 l1 l2 : Addr} {j1 j2 : Int} {Q : Value → Shared → Prop} (h1 : s.heap.IsRevIter i1 l1 j1) (h2 : RT.IsRt s.heap i2 l2 j2)
    (h : ∀ h', IsZip h' (s.heap.objs.size + 2) s.heap.objs.size (s.heap.objs.size + 1) .none → IsPair h' s.heap.objs.size (.ref i1) (.ref i2) → IsPair h' (s.heap.objs.size + 1) .none .none →
      (∀ c o, s.heap.get? c = some o → h'.get? c = some o) → Q (.ref (s.heap.objs.size + 2)) { s with heap := h' }) :
    wpAny (model prog w) A (call (.type "zip") [.ref i1, .ref i2]) Q E s := by
  refine callType_new F.called_zip (by decide) (F.typeCall_zip_2 _ _) (F.newCall_zip_2 _ _) (fun obj => F.args_object_init_3 obj _ _) F.entry_zip_new
    (meets_zipR_new i1 i2 l1 l2 j1 j2) ⟨h1, h2, ?_⟩
  have z3 : (zR3 s.heap i1 i2).objs.size = s.heap.objs.size + 1 := Heap.size_push ..
  have z4 : (zR4 s.heap i1 i2).objs.size = s.heap.objs.size + 2 := by rw [Heap.size_push, z3]
  have g5 : (zR5 s.heap i1 i2).get? (zR4 s.heap i1 i2).objs.size = some _ := Heap.get?_push_size _ rfl
  have g4 : (zR5 s.heap i1 i2).get? (zR3 s.heap i1 i2).objs.size = some _ := Heap.get?_push_of_some _ (Heap.get?_push_size _ rfl)
  have g3 : (zR5 s.heap i1 i2).get? s.heap.objs.size = some _ := Heap.get?_push_of_some _ (Heap.get?_push_of_some _ (Heap.get?_push_size _ rfl))
  show _ ∧ _
  rw [z3, z4] at g5
  rw [z3] at g4
  rw [z4]
  exact ⟨⟨_, g5, rfl⟩, h _ g5 g3 g4 fun c o x => Heap.get?_push_of_some _ (Heap.get?_push_of_some _ (Heap.get?_push_of_some _ x))⟩
end
/-! ### the walk -/
def ItzR (K : PySem.W.Frag) (a b : Addr) (n : Nat) : It :=
  ⟨fun i H => i < n ∧ ∃ (xs ys : List V) (x y : V), SqL K H a xs ∧ SqT K H b ys ∧ xs[n - 1 - i]? = some x ∧ ys[n - 1 - i]? = some y,
    fun i H v H' => ∃ T x y, v = .ref T ∧ H T = none ∧ H' = upd H T (.tup [x, y]) ∧ (∀ xs, SqL K H a xs → xs[n - 1 - i]? = some x) ∧ ∀ ys, SqT K H b ys → ys[n - 1 - i]? = some y,
    fun i _ => n ≤ i⟩
theorem turn_zipR {P : Program} {w : World} {K : PySem.W.Frag} {elts : List Expr} {kk : Nat} {tpos : Pos} {a b z TI TO i1 i2 : Addr} (n : Nat) (D : ZipApart z TI TO i1 i2 a b) :
    Turn P w K (.Tuple elts kk tpos) (ItzR K a b n) [z, TI, TO, i1, i2] z (fun i h => i ≤ n ∧ IsZip h z TI TO .none ∧ IsPair h TI (.ref i1) (.ref i2) ∧ (∃ x y, IsPair h TO x y) ∧ h.IsRevIter i1 a ((n : Int) - 1 - (i : Nat)) ∧ RT.IsRt h i2 b ((n : Int) - 1 - (i : Nat))) where
  mem := by simp
  obj := fun i h st c hc => by
    obtain ⟨_, hz, hTI, ⟨x, y, hTO⟩, ⟨o1, e1, _, d1⟩, ⟨o2, e2, _, d2⟩⟩ := st
    have e' : c = z ∨ c = TI ∨ c = TO ∨ c = i1 ∨ c = i2 := by simpa using hc
    rcases e' with q | q | q | q | q
    · rw [q]; exact ⟨_, hz, fun v q => nomatch q⟩
    · rw [q]; exact ⟨_, hTI, fun v q => nomatch q⟩
    · rw [q]; exact ⟨_, hTO, fun v q => nomatch q⟩
    · rw [q]; exact ⟨o1, e1, fun v q => by rw [d1] at q; cases q⟩
    · rw [q]; exact ⟨o2, e2, fun v q => by rw [d2] at q; cases q⟩
  keep := fun i h h' st k => by
    obtain ⟨hi, hz, hTI, ⟨x, y, hTO⟩, h1, h2⟩ := st
    exact ⟨hi, k z (by simp) _ hz, k TI (by simp) _ hTI, ⟨x, y, k TO (by simp) _ hTO⟩, h1.at fun o q => k i1 (by simp) o q, h2.at fun o q => k i2 (by simp) o q⟩
  item := by
    intro X hP hw hK hc i pins s σ H E I hf st hg
    subst hP hw hK
    obtain ⟨_, hz, hTI, ⟨x0, y0, hTO⟩, h1, h2⟩ := st
    obtain ⟨hin, xs, ys, x, y, hqx, hqy, hx, hy⟩ := hg
    obtain ⟨its, rv, p, _⟩ := I.list hqx
    obtain ⟨its2, rv2, p2, hz2⟩ := I.tuple hqy
    obtain ⟨u, hu, ru⟩ := rv.get hx
    obtain ⟨u2, hu2, ru2⟩ := rv2.get hy
    have hzl : z < s.heap.objs.size := Heap.lt_size hz
    have e1 : (n : Int) - 1 - ((i : Nat) : Int) = ((n - 1 - i : Nat) : Int) := by omega
    rw [e1] at h1 h2
    have hsz2 : its2.toArray.size ≤ sizeLine := by rw [List.size_toArray, ← rv2.length]; exact hz2
    refine pyNext_zipR_item D hz hTI hTO h1 h2 p.isList p2 (x := u) (y := u2) (by simpa using hu) (by simpa using hu2) hsz2 fun h' tk z' TO' h1' h2' hT hsz hk => ?_
    refine ⟨_, rfl, wpAny_letOwnedTupleGo_zip (s := { s with heap := h', toks := tk }) z' fun h'' z'' sb => ?_⟩
    have hT2 : h''.get? s.heap.objs.size = some { cls := .type "tuple", data := .seq #[u, u2] } := (sb.2 _ (Nat.ne_of_gt hzl)).trans hT
    have new : ObjOk X.prog X.w (upd H s.heap.objs.size (.tup [x, y])) h'' s.heap.objs.size (.tup [x, y]) :=
      ⟨by show 2 ≤ sizeLine; decide, [u, u2], .cons ru (.cons ru2 .nil), ⟨_, hT2, rfl, _, rfl⟩⟩
    have I1 : Inv X pins σ (upd H s.heap.objs.size (.tup [x, y])) { s with heap := h'', toks := tk } :=
      I.turnedNew (t' := tk) (ch := [z, TI, TO, i1, i2]) (fun c o hb q => (sb.2 c (fun q' => hb (by simp [q']))).trans (hk c o (fun q' => hb (by simp [q'])) (fun q' => hb (by simp [q'])) (fun q' => hb (by simp [q'])) (fun q' => hb (by simp [q'])) q)) hf (Nat.le_refl _) new
    have e2 : ((n - 1 - i : Nat) : Int) - 1 = (n : Int) - 1 - ((i + 1 : Nat) : Int) := by omega
    rw [e2] at h1' h2'
    refine ⟨.ref s.heap.objs.size, _, I1, rfl, ⟨_, x, y, rfl, I.hok.fresh (Nat.le_refl _), rfl, fun l hl => by rw [I.list_inj hl hqx]; exact hx, fun l hl => by rw [I.tuple_inj hl hqy]; exact hy⟩, ⟨hin, z'', ?_, ⟨u, u2, ?_⟩, ?_, ?_⟩, fun c hcm => ?_⟩
    · exact (sb.2 _ D.TIz).trans (hk _ _ D.TIz D.TITO D.TIi1 D.TIi2 hTI)
    · exact (sb.2 _ D.TOz).trans TO'
    · exact h1'.at fun o q => (sb.2 _ D.i1z).trans q
    · exact h2'.at fun o q => (sb.2 _ D.i2z).trans q
    · have hlt : c < s.heap.objs.size := by
        have e' : c = z ∨ c = TI ∨ c = TO ∨ c = i1 ∨ c = i2 := by simpa using hcm
        rcases e' with q | q | q | q | q
        · rw [q]; exact hzl
        · rw [q]; exact Heap.lt_size hTI
        · rw [q]; exact Heap.lt_size hTO
        · rw [q]; obtain ⟨_, e1, _⟩ := h1; exact Heap.lt_size e1
        · rw [q]; obtain ⟨_, e2, _⟩ := h2; exact Heap.lt_size e2
      rw [upd_ne (Nat.ne_of_lt hlt)]
      exact (hf c hcm).1
  done := by
    intro X hP hw hK hc i pins s σ H E I hf st hg
    subst hP hw hK
    obtain ⟨hin, hz, hTI, ⟨x0, y0, hTO⟩, h1, h2⟩ := st
    have hge : n ≤ i := hg
    have e1 : (n : Int) - 1 - ((i : Nat) : Int) = -1 := by omega
    rw [e1] at h1
    exact pyNext_zipR_end (I.ok.hd hc) D hz hTI hTO h1 fun h' hk => ⟨rfl, I.turnedL (t' := s.toks) (ch := [z, TI, TO, i1, i2]) (fun c o hb q =>
      hk c o (fun q' => hb (by simp [q'])) (fun q' => hb (by simp [q'])) (fun q' => hb (by simp [q'])) (fun q' => hb (by simp [q'])) q) hf⟩
  self := fun A i s Q E st h => wpAny_pyIter_zip st.2.1 h
def iZipR (K : PySem.W.Frag) (te te2 : TE) : TI := fun σ H R => te σ H fun v H1 => ∃ (a : Addr) (xs : List V), v = .ref a ∧ SqL K H1 a xs ∧ te2 σ H1 fun v2 H2 => ∃ (b : Addr) (ys : List V), v2 = .ref b ∧ SqT K H2 b ys ∧ ys.length = xs.length ∧ R (ItzR K a b xs.length) H2
section
variable {X : Cx}
theorem pi_zipR {e e2 : Expr} {te te2 : TE} {p p1 p2 pos pos1 pos2 tpos : Pos} {elts : List Expr} {kk : Nat} (hg : Gl X "zip") (hm : X.mg "zip" = none) (hg2 : Gl X "reversed") (hm2 : X.mg "reversed" = none) (he : PE X e te) (he2 : PE X e2 te2)
    (hs : starEach [.Call (.Name "reversed" p1) [e] [] pos1, .Call (.Name "reversed" p2) [e2] [] pos2] X.env = (false, eval (.Call (.Name "reversed" p1) [e] [] pos1) X.env) :: starEach [.Call (.Name "reversed" p2) [e2] [] pos2] X.env := by rfl)
    (hs2 : starEach [.Call (.Name "reversed" p2) [e2] [] pos2] X.env = (false, eval (.Call (.Name "reversed" p2) [e2] [] pos2) X.env) :: starEach [] X.env := by rfl)
    (n1 : starEach [e] X.env = (false, eval e X.env) :: starEach [] X.env := by rfl) (n2 : starEach [e2] X.env = (false, eval e2 X.env) :: starEach [] X.env := by rfl)
    (hpl : (backTo pos (starEach [.Call (.Name "reversed" p2) [e2] [] pos2] X.env)).any (·.1) = false := by rfl) :
    PI X (.Tuple elts kk tpos) (.Call (.Name "zip" p) [.Call (.Name "reversed" p1) [e] [] pos1, .Call (.Name "reversed" p2) [e2] [] pos2] [] pos) (iZipR X.K te te2) := by
  refine ⟨fun pins s σ H R I h => ?_⟩
  refine Call_ (ld_blt I hg hm PyProof.Rows.boot_zip (PyProof.Rows.callWith_type1 (args_cons (Call_ (ld_blt I hg2 hm2 PyProof.Rows.boot_reversed (PyProof.Rows.callWith_type1 (args_cons (thn (he.run pins s σ H _ I h) fun u s1 ⟨v, H1, I1, r1, q1⟩ => args_nil ?_) n1) n1 rfl))) hs) hs hpl))
  obtain ⟨a, xs, ev, hqx, q1⟩ := q1
  subst ev
  obtain rfl : u = Value.ref a := r1
  obtain ⟨its, rv, p', hz⟩ := I1.list hqx
  refine call_reversed_list p'.isList ?_
  have I2 : Inv X pins σ H1 { s1 with heap := s1.heap.push (revObj a ((its.toArray.size : Int) - 1)) } := I1.kept (t' := s1.toks) fun b o e => Heap.get?_push_of_some _ e
  obtain ⟨f0, f1, f2, f3, f4, f5⟩ := I1.fpOk (H' := H1) (b := s1.heap.objs.size) (Nat.le_refl _) (I1.hok.fresh (Nat.le_refl _))
  have I2p : Inv X (pins ++ [(s1.heap.objs.size, revObj a ((its.toArray.size : Int) - 1))]) σ H1 { s1 with heap := s1.heap.push (revObj a ((its.toArray.size : Int) - 1)) } := I2.pins_of fun p hp => by
    rcases List.mem_append.mp hp with hp | hp
    · exact I2.pin p (List.mem_append_right _ hp)
    · rw [List.mem_singleton.mp hp]
      exact ⟨Heap.get?_push_size _ rfl, f0, f1, f2, fun v z => by cases z⟩
  refine args_cons (Call_ (ld_blt I2p hg2 hm2 PyProof.Rows.boot_reversed (PyProof.Rows.callWith_type1 (args_cons (thn (he2.run _ _ σ H1 _ I2p q1) fun u2 s3 ⟨v2, H2, I3, r2, q2⟩ => args_nil ?_) n2) n2 rfl))) hs2
  obtain ⟨b, ys, ev, hqy, q2⟩ := q2
  subst ev
  obtain rfl : u2 = Value.ref b := r2
  obtain ⟨its2, rv2, p2', hz2⟩ := I3.tuple hqy
  have hn := line63
  have hl2 := rv2.length
  have pin := I3.pin (s1.heap.objs.size, revObj a ((its.toArray.size : Int) - 1)) (List.mem_append_right _ (List.mem_append_right _ (List.mem_singleton_self _)))
  obtain ⟨g1, g2, _⟩ := pin
  refine RT.call_reversed_tup p2' (fun A E Q k => len_tuple p2' (by simp only [List.size_toArray] <;> omega) k) (args_nil ?_)
  have I4 : Inv X pins σ H2 { s3 with heap := s3.heap.push (RT.rtObj b ((its2.toArray.size : Int) - 1)), toks := s3.toks + 1 + 1 } := (I3.pins_of (pins' := pins) fun p hp => I3.pin p (List.mem_append_right _ (List.mem_append_left _ hp))).kept (t' := s3.toks + 1 + 1) fun b o e => Heap.get?_push_of_some _ e
  obtain ⟨oa, hoa, _⟩ := id p'.isList
  obtain ⟨ob, hob, hcb, _⟩ := id p2'
  have la : @LT.lt Nat instLTNat a s1.heap.objs.size := Heap.lt_size hoa
  have lb : @LT.lt Nat instLTNat b s3.heap.objs.size := Heap.lt_size hob
  have l1 : @LT.lt Nat instLTNat s1.heap.objs.size s3.heap.objs.size := Heap.lt_size g1
  have nb : b ≠ s1.heap.objs.size := fun z => by
    rw [z, g1] at hob
    cases hob
    injection hcb with h
    exact absurd h (by decide)
  have hsz : (s3.heap.push (RT.rtObj b ((its2.toArray.size : Int) - 1))).objs.size = s3.heap.objs.size + 1 := Heap.size_push ..
  have k1 : Heap.IsRevIter (s3.heap.push (RT.rtObj b ((its2.toArray.size : Int) - 1))) s1.heap.objs.size a ((its.toArray.size : Int) - 1) := ⟨_, Heap.get?_push_of_some _ g1, rfl, rfl⟩
  have k2 : RT.IsRt (s3.heap.push (RT.rtObj b ((its2.toArray.size : Int) - 1))) s3.heap.objs.size b ((its2.toArray.size : Int) - 1) := ⟨_, Heap.get?_push_size _ rfl, rfl, rfl⟩
  obtain ⟨hlen, q2⟩ := q2
  refine call_zipR (s := { s3 with heap := s3.heap.push (RT.rtObj b ((its2.toArray.size : Int) - 1)), toks := s3.toks + 1 + 1 }) k1 k2 fun h' hz5 hTI hTO hk => wpAny_pyIter_zip hz5 ?_
  have I5 : Inv X pins σ H2 { s3 with heap := h', toks := s3.toks + 1 + 1 } := I4.kept (t' := s3.toks + 1 + 1) hk
  simp only [hsz] at hz5 hTI hTO ⊢
  have D : ZipApart (s3.heap.objs.size + 1 + 2) (s3.heap.objs.size + 1) (s3.heap.objs.size + 1 + 1) s1.heap.objs.size s3.heap.objs.size a b := by
    constructor
    all_goals first | exact nb | (intro (z : @Eq Nat _ _); omega)
  have e1 : ((its.toArray.size : Nat) : Int) - 1 = (xs.length : Int) - 1 - ((0 : Nat) : Int) := by simp only [List.size_toArray]; have := rv.length; omega
  have e2 : ((its2.toArray.size : Nat) : Int) - 1 = (xs.length : Int) - 1 - ((0 : Nat) : Int) := by simp only [List.size_toArray]; have := rv2.length; omega
  rw [e1] at k1
  rw [e2] at k2 hk
  refine ⟨s3.heap.objs.size + 1 + 2, [s3.heap.objs.size + 1 + 2, s3.heap.objs.size + 1, s3.heap.objs.size + 1 + 1, s1.heap.objs.size, s3.heap.objs.size], _, _, H2, rfl, I5, turn_zipR xs.length D, ⟨Nat.zero_le _, hz5, hTI, ⟨_, _, hTO⟩, k1.at fun o e => by rw [e2] at e; exact hk _ o e, k2.at fun o e => hk _ o e⟩, fun c hcm => ?_, q2⟩
  have fr : ∀ c, s3.heap.objs.size ≤ c → FpOk X pins H2 c := fun c hle => ((I3.unpinned).fpOk hle (I3.hok.fresh hle))
  have e' : c = s3.heap.objs.size + 1 + 2 ∨ c = s3.heap.objs.size + 1 ∨ c = s3.heap.objs.size + 1 + 1 ∨ c = s1.heap.objs.size ∨ c = s3.heap.objs.size := by simpa using hcm
  rcases e' with z | z | z | z | z
  · rw [z]; exact fr _ (Nat.le_of_lt (by omega))
  · rw [z]; exact fr _ (Nat.le_of_lt (by omega))
  · rw [z]; exact fr _ (Nat.le_of_lt (by omega))
  · rw [z]; exact I1.fpOk (Nat.le_refl _) g2
  · rw [z]; exact fr _ (Nat.le_refl _)
end
variable [TabCfg]
def itZR (r : Nat) (ys : List D) (n : Nat) : ItD := ⟨n, fun i S => match lstAt S r with
  | some xs => match xs[n - 1 - i]?, ys[n - 1 - i]? with
    | some x, some y => some (.tup [x, y])
    | _, _ => none
  | none => none, fun _ => true⟩
theorem itZR_ok {K : PySem.W.Frag} {mg : Str → Option Value} {β : List Addr} {H : Hp} {r n : Nat} {a b : Addr} {ys : List D} {vs : List V} (ha : β[r]? = some a) (hb : H b = some (.tup vs)) (hv : Vds K mg β H vs ys) : ItOk K mg β H (ItzR K a b n) (itZR r ys n) := by
  intro β' H' S' x rl
  have k3 : SqT K H' b vs := .of (x.tup _ _ hb)
  refine ⟨fun i d hi hd => ?_, fun _ => Nat.le_refl _⟩
  have hd : (match lstAt S' r with
  | some xs => match xs[n - 1 - i]?, ys[n - 1 - i]? with
    | some x, some y => some (D.tup [x, y])
    | _, _ => none
  | none => none) = some d := hd
  cases q1 : lstAt S' r with
  | none => rw [q1] at hd; cases hd
  | some xs =>
    rw [q1] at hd
    dsimp only at hd
    cases q2 : xs[n - 1 - i]? with
    | none => rw [q2] at hd; cases hd
    | some x0 =>
      cases q3 : ys[n - 1 - i]? with
      | none => rw [q2, q3] at hd; cases hd
      | some y0 =>
        rw [q2, q3] at hd
        cases hd
        obtain ⟨us, k1, k2⟩ := lst_read rl (x.at' ha) q1
        obtain ⟨u, k5, k6⟩ := k2.get q2
        obtain ⟨v, k7, k8⟩ := (hv.ext x).get q3
        refine ⟨⟨hi, us, vs, u, v, k1, k3, k5, k7⟩, fun y H'' hy => ?_⟩
        obtain ⟨T, u', v', rfl, hT, rfl, g1, g2⟩ := hy
        have z1 := g1 us k1
        have z2 := g2 vs k3
        rw [k5] at z1
        rw [k7] at z2
        cases z1
        cases z2
        exact pair_made rl hT k6 k8
noncomputable def mZipR (m m2 : Mx) : Mi := fun ρ S => (m ρ S).bind fun d S1 => match d with
  | .ref r => match lstAt S1 r with
    | some xs => (m2 ρ S1).bind fun e S2 => match e with
      | .tup ys => if ys.length = xs.length then .ok (itZR r ys xs.length) S2 else .stuck
      | _ => .stuck
    | none => .stuck
  | _ => .stuck
section
variable {X : Cx} {W : WX} {m m2 : Mx} {e e2 : Expr} {p p1 p2 pos pos1 pos2 tpos : Pos} {elts : List Expr} {kk : Nat}
theorem mi_zipR (hm : X.mg "zip" = none) (hm2 : X.mg "reversed" = none) (he : ME X W e m) (he2 : ME X W e2 m2) (hg : Gl X "zip" := by rfl) (hg2 : Gl X "reversed" := by rfl)
    (hs : starEach [.Call (.Name "reversed" p1) [e] [] pos1, .Call (.Name "reversed" p2) [e2] [] pos2] X.env = (false, eval (.Call (.Name "reversed" p1) [e] [] pos1) X.env) :: starEach [.Call (.Name "reversed" p2) [e2] [] pos2] X.env := by rfl)
    (hs2 : starEach [.Call (.Name "reversed" p2) [e2] [] pos2] X.env = (false, eval (.Call (.Name "reversed" p2) [e2] [] pos2) X.env) :: starEach [] X.env := by rfl)
    (n1 : starEach [e] X.env = (false, eval e X.env) :: starEach [] X.env := by rfl) (n2 : starEach [e2] X.env = (false, eval e2 X.env) :: starEach [] X.env := by rfl)
    (hpl : (backTo pos (starEach [.Call (.Name "reversed" p2) [e2] [] pos2] X.env)).any (·.1) = false := by rfl) :
    MI X W (.Tuple elts kk tpos) (.Call (.Name "zip" p) [.Call (.Name "reversed" p1) [e] [] pos1, .Call (.Name "reversed" p2) [e2] [] pos2] [] pos) (mZipR m m2) := by
  refine ⟨PI.weak (pi_zipR hg hm hg2 hm2 he.pe he2.pe hs hs2 n1 n2 hpl) fun σ H Q ⟨β, S, ρ, rl, en, q⟩ => ⟨β, S, ρ, rl, en, (Po.bind q).mono fun d β1 S1 H1 x1 r1 q1 v hv => ?_⟩⟩
  cases d with
  | ref r =>
    obtain ⟨a, rfl, h1⟩ := hv.ref_inv
    dsimp only at q1
    cases e1 : lstAt S1 r with
    | none => rw [e1] at q1; exact q1.elim
    | some xs =>
      rw [e1] at q1
      dsimp only at q1
      obtain ⟨us, h2, h3⟩ := lst_read r1 h1 e1
      refine ⟨a, us, rfl, h2, β1, S1, ρ, r1, en.ext x1, (Po.bind q1).mono fun d2 β2 S2 H2 x2 r2 q2 v2 hv2 => ?_⟩
      cases d2 with
      | tup ys =>
        obtain ⟨b, vs, rfl, g1, g2⟩ := hv2.tup_at
        dsimp only at q2
        split at q2
        · rename_i hl
          refine ⟨b, vs, rfl, .of g1, by rw [g2.length, h3.length, hl], ?_⟩
          rw [h3.length]
          exact q2 β2 H2 .refl r2 _ (itZR_ok (x2.at' h1) g1 g2)
        · exact q2.elim
      | _ => exact q2.elim
  | _ => exact q1.elim
@[simp] theorem ev_zipR {ρ : Env'} {S : Sto} : mZipR m m2 ρ S = (m ρ S).bind fun d S1 => match d with
  | .ref r => match lstAt S1 r with
    | some xs => (m2 ρ S1).bind fun e S2 => match e with
      | .tup ys => if ys.length = xs.length then .ok (itZR r ys xs.length) S2 else .stuck
      | _ => .stuck
    | none => .stuck
  | _ => .stuck := rfl
end
end Eng

set_option maxHeartbeats 2000000
/-! The engine, part 36: own exceptions with fields. -/
namespace Eng
open PySem PySem.Spec PyProof.Rows L2
/-! ### B.__init__(self, ..): B an own class of exceptions -/
/-- what the written part must say of B -/
structure IniC (K : PySem.W.Frag) (C : Addr) : Prop where
  rd : PySem.W.readsIn K C (.type "type") = true
  ga : PySem.W.specialIn K (.ref C) "__getattribute__" = some (some (.builtin "type.__getattribute__"))
  at_ : PySem.W.findCls K (.ref C) (.type "type") "__init__" = some (.val (.builtin "ValueError.__init__"))
def iniB (K : PySem.W.Frag) (C : Addr) : Bool := PySem.W.readsIn K C (.type "type") && (decide (PySem.W.specialIn K (.ref C) "__getattribute__" = some (some (.builtin "type.__getattribute__"))) &&
  match PySem.W.findCls K (.ref C) (.type "type") "__init__" with
  | some (.val v) => decide (v = .builtin "ValueError.__init__")
  | _ => false)
theorem iniB_ok {K : PySem.W.Frag} {C : Addr} (h : iniB K C = true) : IniC K C := by
  unfold iniB at h
  obtain ⟨h1, h⟩ := Bool.and_eq_true_iff.mp h
  obtain ⟨h2, h3⟩ := Bool.and_eq_true_iff.mp h
  refine ⟨h1, of_decide_eq_true h2, ?_⟩
  split at h3
  · rename_i v e
    rw [e, of_decide_eq_true h3]
  · cases h3
def oexB (K : PySem.W.Frag) (C : Addr) : Bool := (match K.lookup C with
  | some ⟨.type "type", _, .cls cd, sl⟩ => (match cd.mro, sl.toList with
    | .ref C' :: bm, [_, _, _, _, some (.builtin n), _] => C' == C && (n == "ValueError.__new__" && (!cd.hasDel && (cd.hasDict && PySem.HandSPX.refsVE bm)))
    | _, _ => false)
  | _ => false) && (decide (PySem.W.findIn K (.ref C) "__setattr__" = some (some (.builtin "object.__setattr__"))) && (decide (PySem.W.subIn K (.ref C) (.type "BaseException") = some true) && (decide (PySem.W.typeIn K (.ref C) = some (.type "type")) && PySem.W.keepIn K (.ref C))))
theorem oexB_ok {K : PySem.W.Frag} {C : Addr} (h : oexB K C = true) : OexC K C := by
  unfold oexB at h
  obtain ⟨q, h⟩ := Bool.and_eq_true_iff.mp h
  obtain ⟨h2, h⟩ := Bool.and_eq_true_iff.mp h
  obtain ⟨h3, h⟩ := Bool.and_eq_true_iff.mp h
  obtain ⟨h4, h5⟩ := Bool.and_eq_true_iff.mp h
  refine ⟨?_, of_decide_eq_true h2, of_decide_eq_true h3, of_decide_eq_true h4, h5⟩
  split at q
  · rename_i dd cd sl ho
    split at q
    · rename_i C' bm k0 k1 k2 k3 n k5 hm hs
      simp only [Bool.and_eq_true, beq_iff_eq, Bool.not_eq_true'] at q
      obtain ⟨rfl, rfl, hdel, hdict, ht⟩ := q
      obtain ⟨nm, bs, mro, ns, qn, hd, sn, sub, ab, col, del⟩ := cd
      dsimp only at hm hdel hdict
      subst hm hdel hdict
      have hsl : sl = #[k0, k1, k2, k3, some (.builtin "ValueError.__new__"), k5] := by
        obtain ⟨l⟩ := sl
        simp only at hs
        rw [hs]
      subst hsl
      exact ⟨nm, qn, ns, bs, bm, sn, sub, ab, col, dd, k0, k1, k2, k3, k5, ho, ht⟩
    · cases q
  · cases q
section
variable {X : Cx} {e : Expr} {es : List Expr} {ta : TA} {p p1 p2 pos : Pos} {x : Str} {Cb : Addr}
theorem pe_oinit {pl : Sem Bool} (hg : Gl X x) (hm : X.mg x = some (.ref Cb)) (C : IniC X.K Cb) (ha : PA X (e :: es) ta) (hdb : (x == ("__debug__" : Str)) = false := by decide)
    (hc : eval (.Call (.Attribute (.Name x p1) "__init__" p2) (e :: es) [] pos) X.env = (do
      let ov ← eval (.Name x p1) X.env
      standAt p2.atName
      let (f, first) ← holding [ov] (getMethod ov "__init__" pl)
      callWith pos f first (backTo pos (starEach (e :: es) X.env)) (backToKw pos (keywordEach [] X.env))) := by rfl)
    (he : starEach (e :: es) X.env = (false, eval e X.env) :: starEach es X.env := by rfl) (hpl : (backTo pos (starEach es X.env)).any (·.1) = false := by rfl) :
    PE X (.Call (.Attribute (.Name x p1) "__init__" p2) (e :: es) [] pos) (tVeI X.K ta) := by
  refine ⟨fun pins s σ H Q I h => ?_⟩
  refine PySem.W.methodCall_KW (ld_glob I hg hm ?_ hdb) hc
  refine PySem.W.method_cls I.kIn C.ga (PySem.W.cls_value I.kIn C.rd C.at_ (by rfl) ?_)
  show wpAny _ _ (callWith pos (Value.builtin "ValueError.__init__") [] (backTo pos (starEach (e :: es) X.env)) []) _ _ _
  refine PyProof.Rows.callWith_method1 (thn (ha.run pos pins _ σ H _ (I.tok _) h) fun us s1 ⟨vs, H1, I1, r1, a, C, ws, ev, hl, T, ea, q⟩ => ?_) he hpl
  subst ev
  cases r1 with
  | @cons _ u0 _ ur ra rw' =>
    obtain rfl : u0 = Value.ref a := ra
    have hlen : ur.length ≤ sizeLine := by
      rw [← Paired.length rw', sizeLine_eq]
      omega
    exact oinit_ok T I1 ea hlen fun s' J => ⟨.non, H1, J, rfl, q⟩
end
/-! ### the making of one with two fields -/
def spXI (K : PySem.W.Frag) (f1 f2 : Str) : Sp := fun vs H Q _ => ∃ (a C : Addr) (v1 v2 : V), vs = [.ref a, v1, v2] ∧ OexC K C ∧ PySem.W.findIn K (.ref C) f1 = some none ∧ PySem.W.findIn K (.ref C) f2 = some none ∧ H a = some (exo a C none) ∧
  ∀ dx, H dx = none → dx ≠ a → Q .non (upd (upd (upd H dx (exd dx [(f1, v1)])) a (exo a C (some dx))) dx (exd dx [(f2, v2), (f1, v1)]))
def tXI (K : PySem.W.Frag) (m : Str) (f1 f2 : Str) : TS := tSeq (tDrop (tVeI K (tCons (tVar 0) (tCons (tC (.str m)) tNil)))) (tSeq (tOst K f1 (tVar 0) (tVar 1)) (tOst K f2 (tVar 0) (tVar 2)))
theorem tXI_start {K : PySem.W.Frag} {m f1 f2 n0 n1 n2 : Str} {vs : List V} {H : Hp} {Q : VK} {E : XK} (h : spXI K f1 f2 vs H Q E) : tXI K m f1 f2 { nx := fun _ H' => Q .non H', rt := Q } (L2.start [n0, n1, n2] vs) H := by
  obtain ⟨a, C, v1, v2, rfl, T, h1, h2, ha, q⟩ := h
  refine ⟨.ref a, rfl, a, C, [.str m], rfl, by simp, T, ha, ?_⟩
  refine ⟨v1, rfl, .ref a, rfl, a, C, rfl, T, h1, .inl ⟨ha, fun dx n ne => ?_⟩⟩
  refine ⟨v2, rfl, .ref a, rfl, a, C, rfl, T, h2, .inr ⟨dx, [(f1, v1)], upd_same, by rw [upd_ne ne, upd_same], by simp, q dx n ne⟩⟩
section
variable {P : Program} {w : World} {K : PySem.W.Frag} {mg : Str → Option Value} {base : Heap}
theorem fn_exi {x qual : Str} {st : Stmt} {f : Addr} {fd : FuncData} {n0 n1 n2 m f1 f2 : Str} {k : Nat} (F : Fun K x qual st f fd) (S : FnScope [n0, n1, n2] [n0, n1, n2] (defScope st))
    (h : ∀ (cdv : Value) (A : Around) (outer : List Env) (s : Shared) (H : Hp) (E : XK), PSs (cxOf (L2.CX P w) P w K mg base [n0, n1, n2] qual (defScope st) f cdv A outer s H E) (defBody st) (tXI K m f1 f2)) : FnOk P w K mg base (L2.CX P w) (k + 1) f fd [n0, n1, n2] (spXI K f1 f2) :=
  F.okX S (fun vs H Q E ⟨a, C, v1, v2, e, _⟩ => by rw [e]; rfl) fun cdv A outer s H vs Q E hr hq => ⟨_, h cdv A outer s H E, tXI_start hq⟩
end
variable [TabCfg]
def mKF (c f1 f2 : Str) (m1 m2 : Mx) : Mk' := fun ρ S => (m1 ρ S).bind fun d1 S1 => (m2 ρ S1).bind fun d2 S2 => .ok ⟨c, [(f2, d2), (f1, d1)]⟩ S2
section
variable {X : Cx} {W : WX} {e1 e2 : Expr} {m1 m2 : Mx} {p pos : Pos} {x f1 f2 : Str} {C fI : Addr} {k j : Nat} {fd : FuncData} {ps : List Str}
theorem mk_flds (T : OexC X.K C) (h1 : PySem.W.findIn X.K (.ref C) f1 = some none) (h2 : PySem.W.findIn X.K (.ref C) f2 = some none) (iC : PySem.W.findIn X.K (.ref C) "__init__" = some (some (.ref fI))) (tI : PySem.W.typeIn X.K (.ref fI) = some (.type "function"))
    (F1 : FnOk X.prog X.w X.K X.mg X.base (L2.CX X.prog X.w) k fI fd ps (spXI X.K f1 f2)) (hr : Room j X.A) (hb : Binds X.K fd ps []) (hm : X.mg x = some (.ref C)) (ha : MA X W [e1, e2] (mCons m1 (mCons m2 mNil))) (hkj : k + 1 ≤ j := by decide) (hg : Gl X x := by rfl)
    (hdb : (x == ("__debug__" : Str)) = false := by decide) (he : starEach [e1, e2] X.env = (false, eval e1 X.env) :: starEach [e2] X.env := by rfl) (hpl : (backTo pos (starEach [e2] X.env)).any (·.1) = false := by rfl) :
    MK X W (.Call (.Name x p) [e1, e2] [] pos) (mKF x f1 f2 m1 m2) := by
  refine ⟨fun pins s σ H Q I h => pmk_oex (sp := spXI X.K f1 f2) (dvs := []) T iC tI F1 (hr.mono hkj) hb .nil passL hg hm ha.pa hdb he hpl pins s σ H Q I ?_⟩
  obtain ⟨β, S, ρ, rl, en, w⟩ := h
  refine ⟨β, S, ρ, rl, en, ?_⟩
  have e : mKF x f1 f2 m1 m2 ρ S = (mCons m1 (mCons m2 mNil) ρ S).bind fun ds S1 => match ds with
    | [d1, d2] => .ok ⟨x, [(f2, d2), (f1, d1)]⟩ S1
    | _ => .stuck := by
    unfold mKF mCons mNil
    cases q1 : m1 ρ S with
    | ok d1 S1 =>
      cases q2 : m2 ρ S1 with
      | ok d2 S2 => simp only [R.bind, q2]
      | ex z S2 => simp only [R.bind, q2]
      | stuck => simp only [R.bind, q2]
    | ex z S1 => simp only [R.bind]
    | stuck => simp only [R.bind]
  rw [e] at w
  refine (Po.bind w).mono fun ds β1 S1 H1 x1 r1 q1 vs hv => ?_
  match ds, q1, hv with
  | [d1, d2], q1, hv =>
    obtain ⟨v1, v2, rfl, g1, g2⟩ := hv.two
    refine ⟨by simp, fun a na => ⟨a, C, v1, v2, rfl, T, h1, h2, upd_same, fun dx n ne => ⟨rfl, dx, [(f2, v2), (f1, v1)], by rw [upd_ne (Ne.symm ne), upd_same], upd_same, by rw [upd_ne ne] at n; exact n, ?_⟩⟩⟩
    have nd : H1 dx = none := by rw [upd_ne ne] at n; exact n
    have eH : upd (del (upd (upd (upd (upd H1 a (exo a C none)) dx (exd dx [(f1, v1)])) a (exo a C (some dx))) dx (exd dx [(f2, v2), (f1, v1)])) a) dx (.xd [(f2, v2), (f1, v1)]) = upd H1 dx (.xd [(f2, v2), (f1, v1)]) := by
      funext b
      by_cases hb1 : b = dx
      · rw [hb1, upd_same, upd_same]
      · rw [upd_ne hb1, upd_ne hb1]
        by_cases hb2 : b = a
        · rw [hb2, del_same, na]
        · rw [del_ne hb2, upd_ne hb1, upd_ne hb2, upd_ne hb1, upd_ne hb2]
    rw [eH]
    have xx : Xt X.K β1 H1 β1 (upd H1 dx (.xd [(f2, v2), (f1, v1)])) := xt_new' nd
    exact q1 β1 _ xx (r1.tup nd) (.ref C) (some dx) ⟨C, hm, rfl, .inr ⟨dx, [(f2, v2), (f1, v1)], rfl, by simp, upd_same, .cons ⟨rfl, g2.ext xx⟩ (.cons ⟨rfl, g1.ext xx⟩ .nil)⟩⟩
  | [], q1, hv => exact q1.elim
  | [_], q1, hv => exact q1.elim
  | _ :: _ :: _ :: _, q1, hv => exact q1.elim
@[simp] theorem ev_mkf {ρ : Env'} {S : Sto} {c : Str} : mKF c f1 f2 m1 m2 ρ S = (m1 ρ S).bind fun d1 S1 => (m2 ρ S1).bind fun d2 S2 => .ok ⟨c, [(f2, d2), (f1, d1)]⟩ S2 := rfl
end
end Eng

set_option maxHeartbeats 2000000
/-! The engine, part 37: fields of exceptions read, isinstance of those with fields. -/
namespace Eng
open PySem PySem.Spec PyProof.Rows L2
theorem pe_or {X : Cx} {e : Expr} {t u : TE} (h1 : PE X e t) (h2 : PE X e u) : PE X e (fun σ H Q => t σ H Q ∨ u σ H Q) :=
  ⟨fun pins s σ H Q I h => h.elim (h1.run pins s σ H Q I) (h2.run pins s σ H Q I)⟩
/-- what stands at a caught exception that is tracked -/
theorem exo_inst {X : Cx} {pins : List (Addr × Obj)} {σ : L2.St} {H : Hp} {s : Shared} {a C : Addr} {od : Option Addr} (I : Inv X pins σ H s) (h : H a = some (exoH a (.ref C) od)) : ∃ (oe : Obj) (vs : Array Value), s.heap.get? a = some oe ∧ Zc (.ref C) od oe ∧ oe.data = .fields vs := by
  have z : ObjOk X.prog X.w H s.heap a (.ext fun h => ∃ (oe : Obj) (vs : Array Value), h.get? a = some oe ∧ Zc (.ref C) od oe ∧ oe.data = .fields vs) := I.hok a _ h
  exact z.1
def tXfe (K : PySem.W.Frag) (n : Str) (te : TE) : TE := fun σ H Q => te σ H fun x H1 => ∃ (a C dd : Addr) (fs : List (Str × V)) (v : V), x = .ref a ∧ H1 a = some (exoH a (.ref C) (some dd)) ∧ XfC K C ∧ PySem.W.findIn K (.ref C) n = some none ∧ H1 dd = some (.xd fs) ∧ fs.lookup n = some v ∧ Q v H1
theorem pe_xfe {X : Cx} {e : Expr} {te : TE} {pos : Pos} {n : Str} (he : PE X e te) (hb : attributeBase e n X.env (eval e X.env) = eval e X.env := by rfl) : PE X (.Attribute e n pos) (tXfe X.K n te) := by
  refine ⟨fun pins s σ H Q I h => ?_⟩
  refine attr_of hb (thn (he.run pins s σ H _ I h) fun u s1 hh => ?_)
  obtain ⟨x, H1, I1, rx, a, C, dd, fs, v, ex, ha, T, hno, ea, l, q⟩ := hh
  subst ex
  obtain rfl : u = Value.ref a := rx
  obtain ⟨oe, vs, g1, hz, hd⟩ := exo_inst I1 ha
  have hx : ObjOk X.prog X.w H1 s1.heap dd (.xd fs) := I1.hok dd _ ea
  obtain ⟨mA, hns, hr⟩ := hx
  obtain ⟨od, ho, hl⟩ := lookIn_ns hns
  obtain ⟨u, hu, ru⟩ := RelO.some_of (v := v) (o := mA n) (by rw [← l]; exact hr n)
  have J : PySem.W.InstAt s1.heap a oe C (some od) := ⟨g1, hz.1, by unfold PySem.W.notCls; rw [hd] <;> rfl, by rw [hz.2]; exact ho⟩
  exact HandSPX.exc_get I1.kIn J T.ga T.gg T.exC (PySem.W.findObj_own T.hdC hno rfl (by rw [hl, hu])) (handed_of ru) ⟨v, H1, I1.tok _, ru, q⟩
/-- the classes of exceptions with fields of their own, and these -/
abbrev XfT := List (Str × Str)
def XfOk (K : PySem.W.Frag) (mg : Str → Option Value) (t : XfT) : Prop := ∀ p ∈ t, ∀ C, mg p.1 = some (.ref C) → XfC K C ∧ PySem.W.findIn K (.ref C) p.2 = some none
theorem xf_nil {K : PySem.W.Frag} {mg : Str → Option Value} : XfOk K mg [] := fun _ h => nomatch h
theorem xf_cons {K : PySem.W.Frag} {mg : Str → Option Value} {c f : Str} {C : Addr} {t : XfT} (hm : mg c = some (.ref C)) (x : ExcC K C) (h : PySem.W.findIn K (.ref C) f = some none) (r : XfOk K mg t) : XfOk K mg ((c, f) :: t) := fun p hp D hD => by
  rcases List.mem_cons.mp hp with rfl | hp
  · have e : (c, f).1 = c := rfl
    rw [e, hm] at hD
    cases hD
    exact ⟨⟨x.hg, x.hk, x.hs, x.hd⟩, h⟩
  · exact r p hp D hD
variable [TabCfg]
def fldX (t : XfT) (f : Str) (d : D) (S : Sto) : R D := match d with
  | .ref n => match S[n]? with
    | some (.exn C fs) => if (C, f) ∈ t then R.ofO ((fs.lookup f).map fun d => (d, S)) else .stuck
    | _ => fldD f d S
  | _ => .stuck
def mFldX (t : XfT) (m : Mx) (f : Str) : Mx := fun ρ S => (m ρ S).bind (fldX t f)
section
variable {X : Cx} {W : WX} {pos p : Pos} {e o : Expr} {m : Mx} {f : Str} {t : XfT}
theorem me_fldx (T : XfOk X.K X.mg t) (he : ME X W e m) (hb : attributeBase e f X.env (eval e X.env) = eval e X.env := by rfl) : ME X W (.Attribute e f pos) (mFldX t m f) := by
  refine ⟨PE.weak (pe_or (pe_fld he.pe hb) (pe_xfe he.pe hb)) fun σ H Q ⟨β, S, ρ, rl, en, p⟩ => ?_⟩
  have hp := (show Po X.K X.mg W σ β H ((m ρ S).bind (fldX t f)) _ from p).bind
  cases e0 : m ρ S with
  | stuck => rw [e0] at hp; exact hp.elim
  | ex z S1 =>
    rw [e0] at hp
    exact .inl ⟨β, S, ρ, rl, en, by rw [e0]; exact hp⟩
  | ok d S1 =>
    rw [e0] at hp
    -- by what the store holds
    by_cases hx : ∃ n C fs, d = .ref n ∧ S1[n]? = some (.exn C fs)
    · obtain ⟨n, C, fs, rfl, q1⟩ := hx
      refine .inr ⟨β, S, ρ, rl, en, ?_⟩
      rw [e0]
      intro β1 H1 x1 r1 v hv
      have q := hp β1 H1 x1 r1
      obtain ⟨a, rfl, h1⟩ := hv.ref_inv
      unfold fldX at q
      dsimp only at q
      rw [q1] at q
      dsimp only at q
      split at q
      · rename_i hmem
        cases e2 : fs.lookup f with
        | none => rw [e2] at q; exact q.elim
        | some d =>
          rw [e2] at q
          obtain ⟨Ca, od, g1, g2, g3⟩ := r1.at' n a _ h1 q1
          obtain ⟨T1, T2⟩ := T _ hmem Ca g1
          rcases g3 with ⟨rfl, _⟩ | ⟨dd, xs, rfl, _, g4, g5⟩
          · cases e2
          · obtain ⟨w, g6, g7⟩ := g5.look e2
            exact ⟨a, Ca, dd, xs, w, rfl, g2, T1, T2, g4, g6, q β1 H1 .refl r1 w g7⟩
      · exact q.elim
    · refine .inl ⟨β, S, ρ, rl, en, ?_⟩
      rw [e0]
      intro β1 H1 x1 r1 v hv
      have q := hp β1 H1 x1 r1
      cases d with
      | ref n =>
        obtain ⟨a, rfl, h1⟩ := hv.ref_inv
        unfold fldX at q
        dsimp only at q
        cases e1 : S1[n]? with
        | none => rw [e1] at q; unfold fldD at q; dsimp only at q; rw [e1] at q; exact q.elim
        | some ob =>
          rw [e1] at q
          cases ob with
          | exn C fs => exact absurd ⟨n, C, fs, rfl, e1⟩ hx
          | ins C fs =>
            dsimp only at q
            unfold fldD at q
            dsimp only at q
            rw [e1] at q
            dsimp only at q
            cases e2 : fs.lookup f with
            | none => rw [e2] at q; exact q.elim
            | some d =>
              rw [e2] at q
              obtain ⟨Ca, dx, xs, g1, g2, g3, g4, g5⟩ := ins_of r1 h1 e1
              obtain ⟨w, g6, g7⟩ := g3.look e2
              obtain ⟨pp, g8, g9⟩ := mem_of_look e2
              exact ⟨a, Ca, dx, xs, w, rfl, g2, g4, by rw [← g9]; exact g5 pp g8, g6, q β1 H1 .refl r1 w g7⟩
          | _ => unfold fldD at q; dsimp only at q; rw [e1] at q; exact q.elim
      | _ => exact q.elim
end
/-! ### isinstance of a caught exception with fields -/
def rIsY (K : PySem.W.Frag) : List V → Hp → VK → Prop := fun xs H Q => ∃ (a C : Addr) (od : Option Addr) (c : V) (cv : Value) (b : Bool), xs = [.ref a, c] ∧ H a = some (exoH a (.ref C) od) ∧ (∀ dd, od = some dd → ∃ fs : List (Str × V), H dd = some (.xd fs)) ∧ ExcC K C ∧ (∀ u, RelV c u → u = cv) ∧ PySem.W.kitOne K (.ref C) cv = some b ∧ Q (.bl b) H
theorem call_isY {X : Cx} : CallR X (.builtin "isinstance") (rIsY X.K) := by
  intro pins s σ H xs us Q I r h
  obtain ⟨a, C, od, c, cv, b, rfl, ha, hdd, T, hcv, e, q⟩ := h
  cases r with
  | cons rx rr =>
    cases rr with
    | cons rt rr =>
      cases rr
      cases rx
      have ec := hcv _ rt
      subst ec
      obtain ⟨oe, vs, hget, ⟨z1, z2⟩, hd⟩ := exo_inst I ha
      have hn : PySem.W.notCls oe = true := by unfold PySem.W.notCls; rw [hd] <;> rfl
      obtain ⟨uo, J⟩ : ∃ uo, PySem.W.InstAt s.heap a oe C uo := by
        cases od with
        | none => exact ⟨none, ⟨hget, z1, hn, by rw [z2]; trivial⟩⟩
        | some dd =>
          obtain ⟨fs, hfs⟩ := hdd dd rfl
          have hx : ObjOk X.prog X.w H s.heap dd (.xd fs) := I.hok dd _ hfs
          obtain ⟨mA, hns, hr⟩ := hx
          obtain ⟨ob, ho, hl⟩ := lookIn_ns hns
          exact ⟨some ob, ⟨hget, z1, hn, by rw [z2]; exact ho⟩⟩
      have hcl : (PySem.W.clsIn X.K C).isSome = true := by
        have := T.hd
        unfold PySem.W.hasDictIn at this
        cases q : PySem.W.clsIn X.K C with
        | none => rw [q] at this; cases this
        | some cd => rfl
      exact PySem.W.kia_one (PySem.W.kitx_exc hcl T.hg T.hk T.hs T.ha T.hn T.ht T.hm) I.kIn J e (fun z => nomatch z) fun tk => ⟨.bl b, H, I.kept (t' := tk) fun _ _ z => z, rfl, q⟩
def fIsY (isa : IsaT) (isaT : Str → String → Option Bool) : FA
  | [.ref n, .gl c], S => match S[n]? with
    | some (.exn y _) => (isa y c).map fun b => (.bl b, S)
    | _ => none
  | [.ref n, .ty c], S => match S[n]? with
    | some (.exn y _) => (isaT y c).map fun b => (.bl b, S)
    | _ => fIsi [.ref n, .ty c] S
  | [.non, .gl _], _ => none
  | ds, S => fIsi ds S
section
variable {X : Cx} {W : WX} {pos p : Pos} {isa : IsaT} {isaT : Str → String → Option Bool}
theorem o_isY (T : IsaOk X.K X.mg isa isaT) : OpA X (fun xs H Q => rIsY X.K xs H Q ∨ rIsi X.K xs H Q) (fIsY isa isaT) := by
  intro β H S xs vs d S' Q r hv e k
  have base : fIsi xs S = some (d, S') → rIsY X.K vs H Q ∨ rIsi X.K vs H Q := fun e => .inr (o_isi β H S xs vs d S' Q r hv e k)
  have bare : ∀ {n : Nat} {y : Str} {fs : List (Str × D)} {v : V}, Vd X.K X.mg β H v (.ref n) → S[n]? = some (.exn y fs) → ∃ a Ca od, v = .ref a ∧ X.mg y = some (.ref Ca) ∧ H a = some (exoH a (.ref Ca) od) ∧ ∀ dd, od = some dd → ∃ fs : List (Str × V), H dd = some (.xd fs) := by
    intro n y fs v h1 q
    obtain ⟨a, rfl, h3⟩ := h1.ref_inv
    obtain ⟨Ca, od, h4, h5, h6⟩ := r.at' n a _ h3 q
    refine ⟨a, Ca, od, rfl, h4, h5, fun dd e => ?_⟩
    rcases h6 with ⟨_, h7⟩ | ⟨d', xs, h7, _, h8, _⟩
    · rw [h7] at e; cases e
    · rw [h7] at e
      cases e
      exact ⟨xs, h8⟩
  unfold fIsY at e
  split at e
  · rename_i n c
    obtain ⟨v, w, rfl, h1, h2⟩ := hv.two
    split at e
    · rename_i y fs q
      cases q2 : isa y c with
      | none => rw [q2] at e; cases e
      | some b =>
        rw [q2] at e
        cases e
        obtain ⟨a, Ca, od, rfl, h4, h5, h6⟩ := bare h1 q
        cases h2 with
        | gl h7 => exact .inl ⟨a, Ca, od, _, _, b, rfl, h5, h6, T.exc _ _ _ _ q2 h4, fun u ru => ru, T.kit _ _ _ _ _ q2 h4 h7, k β H _ .refl r (.bl b)⟩
    · cases e
  · rename_i n c
    obtain ⟨v, w, rfl, h1, h2⟩ := hv.two
    split at e
    · rename_i y fs q
      cases q2 : isaT y c with
      | none => rw [q2] at e; cases e
      | some b =>
        rw [q2] at e
        cases e
        obtain ⟨a, Ca, od, rfl, h4, h5, h6⟩ := bare h1 q
        cases h2 with
        | ty => exact .inl ⟨a, Ca, od, _, _, b, rfl, h5, h6, T.excT _ _ _ _ q2 h4, fun u ru => ru, T.kitT _ _ _ _ q2 h4, k β H _ .refl r (.bl b)⟩
    · exact base e
  · cases e
  · exact base e
theorem me_isy {e c : Expr} {m mc : Mx} (T : IsaOk X.K X.mg isa isaT) (hm : X.mg "isinstance" = none) (ha : ME X W e m) (hc : ME X W c mc) (hg : Gl X "isinstance" := by rfl) (hs : starEach [e, c] X.env = [(false, eval e X.env), (false, eval c X.env)] := by rfl) (hs2 : starEach [c] X.env = [(false, eval c X.env)] := by rfl) :
    ME X W (.Call (.Name "isinstance" p) [e, c] [] pos) (mCB (fIsY isa isaT) (mCons m (mCons mc mNil))) :=
  me_cb (CallR.or call_isY call_isi) (o_isY T) (ma_cons ha (ma_cons hc ma_nil hs2) (by rw [hs, hs2])) hm (by decide +kernel) hg (by decide) (by decide) (by rw [hs, hs2]) (by rw [hs2]; rfl)
end
/-! rows for simp -/
section
variable {ρ : Env'} {S : Sto} {m : Mx} {c f y : Str} {isa : IsaT} {isaT : Str → String → Option Bool} {n : Nat} {t : XfT}
@[simp] theorem ev_fldx : mFldX t m f ρ S = (m ρ S).bind (fldX t f) := rfl
@[simp] theorem fldX_ref : fldX t f (.ref n) S = match S[n]? with
    | some (.exn C fs) => if (C, f) ∈ t then R.ofO ((fs.lookup f).map fun d => (d, S)) else .stuck
    | _ => fldD f (.ref n) S := rfl
@[simp] theorem fIsY_gl : fIsY isa isaT [.ref n, .gl c] S = match S[n]? with
    | some (.exn y _) => (isa y c).map fun b => (.bl b, S)
    | _ => none := rfl
@[simp] theorem fIsY_ty {t : String} : fIsY isa isaT [.ref n, .ty t] S = match S[n]? with
    | some (.exn y _) => (isaT y t).map fun b => (.bl b, S)
    | _ => fIsi [.ref n, .ty t] S := rfl
@[simp] theorem fIsY_non {t : String} : fIsY isa isaT [.non, .ty t] S = fIsi [.non, .ty t] S := rfl
@[simp] theorem fIsY_int {i : Int} {t : String} : fIsY isa isaT [.int i, .ty t] S = fIsi [.int i, .ty t] S := rfl
@[simp] theorem fIsY_bl {i : Bool} {t : String} : fIsY isa isaT [.bl i, .ty t] S = fIsi [.bl i, .ty t] S := rfl
@[simp] theorem fIsY_str {i : Str} {t : String} : fIsY isa isaT [.str i, .ty t] S = fIsi [.str i, .ty t] S := rfl
@[simp] theorem fIsY_tup {i : List D} {t : String} : fIsY isa isaT [.tup i, .ty t] S = fIsi [.tup i, .ty t] S := rfl
end
end Eng

set_option maxHeartbeats 2000000
/-! The engine, part 38: sum of a list, xs.clear(), xs.reverse(). -/
namespace Eng
open PySem PySem.Spec PyProof.Rows L2
variable [TabCfg]
def intsOf : List D → Option (List Int)
  | [] => some []
  | .int i :: r => (intsOf r).map (i :: ·)
  | _ => none
theorem intsOf_is : ∀ {ds : List D} {ns : List Int}, intsOf ds = some ns → ds = ns.map D.int
  | [], ns, h => by cases h; rfl
  | .int i :: r, ns, h => by
    unfold intsOf at h
    cases q : intsOf r with
    | none => rw [q] at h; cases h
    | some ms =>
      rw [q] at h
      cases h
      rw [intsOf_is q]
      rfl
@[simp] theorem intsOf_map : ∀ ns : List Int, intsOf (ns.map D.int) = some ns
  | [] => rfl
  | n :: r => by rw [List.map_cons, intsOf, intsOf_map r]; rfl
theorem vds_ints2 {K : PySem.W.Frag} {mg : Str → Option Value} {β : List Addr} {H : Hp} : ∀ {ns : List Int} {vs : List V}, Vds K mg β H vs (ns.map D.int) → vs = ns.map V.int
  | [], _, .nil => rfl
  | n :: r, _, .cons h t => by
    cases h
    rw [vds_ints2 t]
    rfl
def fSum : FA
  | [.ref n], S => (lstAt S n).bind fun ds => (intsOf ds).map fun ns => (.int ns.sum, S)
  | _, _ => none
theorem o_sum {X : Cx} : OpA X (rSum X.K) fSum := by
  intro β H S xs vs d S' Q r hv e k
  match xs, e, hv with
  | [.ref n], e, hv =>
    obtain ⟨v, rfl, h⟩ := hv.one
    obtain ⟨a, rfl, h1⟩ := h.ref_inv
    unfold fSum at e
    dsimp only at e
    cases q : lstAt S n with
    | none => rw [q] at e; cases e
    | some ds =>
      rw [q] at e
      cases q2 : intsOf ds with
      | none => rw [Option.bind_some, q2] at e; cases e
      | some ns =>
        rw [Option.bind_some, q2] at e
        cases e
        obtain ⟨us, k1, k2⟩ := lst_read r h1 q
        rw [intsOf_is q2] at k2
        rw [vds_ints2 k2] at k1
        exact ⟨a, ns, rfl, k1, k β H _ .refl r (.int _)⟩
section
variable {X : Cx} {W : WX} {pos apos p : Pos} {e o : Expr} {m mo : Mx}
theorem me_sum (hc : X.calm = true) (hm : X.mg "sum" = none) (ha : ME X W e m) (hg : Gl X "sum" := by rfl) (hs : starEach [e] X.env = [(false, eval e X.env)] := by rfl) : ME X W (.Call (.Name "sum" p) [e] [] pos) (mCB fSum (mCons m mNil)) :=
  me_cb (cr_sum hc) o_sum (ma_cons ha ma_nil hs) hm (by decide +kernel) hg (by decide) (by decide) hs rfl
def fLw (g : List D → List D) : FM
  | .ref n, [], S => match S[n]? with
    | some (.lst xs) => some (.non, S.set n (.lst (g xs)))
    | _ => none
  | _, _, _ => none
abbrev fClear : FM := fLw fun _ => []
abbrev fRevl : FM := fLw List.reverse
theorem Vds.revs {K : PySem.W.Frag} {mg : Str → Option Value} {β : List Addr} {H : Hp} {vs : List V} {ds : List D} (h : Vds K mg β H vs ds) : Vds K mg β H vs.reverse ds.reverse := by
  induction vs generalizing ds with
  | nil => cases h; exact .nil
  | cons v vs ih =>
    cases h with
    | cons h t =>
      rw [List.reverse_cons, List.reverse_cons]
      exact (ih t).append (.cons h .nil)
theorem o_clear : OpM X "list" ckL rClear fClear := by
  refine ⟨fun β H S o v r h e => ckL_ok r h e, ?_⟩
  intro β H S o v xs vs d S' Q r ho hv e k
  match o, xs, e, ho, hv with
  | .ref n, [], e, ho, hv =>
    obtain ⟨a, rfl, h1⟩ := ho.ref_inv
    cases hv
    unfold fClear fLw at e
    dsimp only at e
    split at e
    · rename_i ds q
      cases e
      obtain ⟨us, h3, h4⟩ := r.lst_at h1 q
      obtain ⟨r', x'⟩ := r.write (o := .lst []) (b' := .lst []) h1 q rfl rfl fun x => ⟨_, upd_same, .nil⟩
      exact ⟨a, us, rfl, rfl, h3, k β _ _ x' r' .non⟩
    · cases e
theorem o_revl : OpM X "list" ckL rReverse fRevl := by
  refine ⟨fun β H S o v r h e => ckL_ok r h e, ?_⟩
  intro β H S o v xs vs d S' Q r ho hv e k
  match o, xs, e, ho, hv with
  | .ref n, [], e, ho, hv =>
    obtain ⟨a, rfl, h1⟩ := ho.ref_inv
    cases hv
    unfold fRevl fLw at e
    dsimp only at e
    split at e
    · rename_i ds q
      cases e
      obtain ⟨us, h3, h4⟩ := r.lst_at h1 q
      obtain ⟨r', x'⟩ := r.write (o := .lst us.reverse) (b' := .lst ds.reverse) h1 q rfl rfl fun x => ⟨_, upd_same, h4.revs.ext x⟩
      exact ⟨a, us, rfl, rfl, h3, k β _ _ x' r' .non⟩
    · cases e
theorem me_clear (ho : ME X W o mo) (hbase : attributeBase o "clear" X.env (eval o X.env) = eval o X.env := by rfl) (hline : (apos.endLine == pos.line) = true := by rfl) : ME X W (.Call (.Attribute o "clear" apos) [] [] pos) (mBM ckL fClear mo mNil) :=
  me_bm0 PySem.F.plainAttrs_list PySem.F.slot_list_clear PySem.F.type_list_clear mt_clear o_clear ho hbase hline
theorem me_revl (ho : ME X W o mo) (hbase : attributeBase o "reverse" X.env (eval o X.env) = eval o X.env := by rfl) (hline : (apos.endLine == pos.line) = true := by rfl) : ME X W (.Call (.Attribute o "reverse" apos) [] [] pos) (mBM ckL fRevl mo mNil) :=
  me_bm0 PySem.F.plainAttrs_list PySem.F.slot_list_reverse PySem.F.type_list_reverse mt_reverse o_revl ho hbase hline
@[simp] theorem ev_sum {n : Nat} {S : Sto} : fSum [.ref n] S = (lstAt S n).bind fun ds => (intsOf ds).map fun ns => (.int ns.sum, S) := rfl
@[simp] theorem ev_lw {g : List D → List D} {n : Nat} {S : Sto} : fLw g (.ref n) [] S = match S[n]? with
    | some (.lst xs) => some (.non, S.set n (.lst (g xs)))
    | _ => none := rfl
end
end Eng

set_option maxHeartbeats 2000000
/-! The engine, part 39: a, b = (x, y) with plain names. -/
namespace Eng
open PySem PySem.Spec PyProof.Rows L2
variable [TabCfg]
section
variable {X : Cx} {W : WX} {pos : Pos} {i j : Nat} {x y : Str} {a b : Expr} {ma mb : Mx} {px py pt : Pos} {kt k2 : Nat} {pt2 : Pos}
theorem ms_par (hN : X.N.Nodup) (ha : ME X W a ma) (hb : ME X W b mb) (hi : X.N[i]? = some x := by rfl) (hj : X.N[j]? = some y := by rfl) (hij : i ≠ j := by decide)
    (hx : X.env.scope.names.lookup x = some .local := by rfl) (hy : X.env.scope.names.lookup y = some .local := by rfl) (hc : X.calm = true := by rfl)
    (hw : swappedStores [.Tuple [.Name x px, .Name y py] kt pt] (.Tuple [a, b] k2 pt2) X.env = pure (some [x, y]) := by rfl)
    (hs : swapsWithSole [.Tuple [.Name x px, .Name y py] kt pt] (.Tuple [a, b] k2 pt2) pos.line X.env = pure false := by rfl)
    (h1 : starEach [a, b] X.env = (false, eval a X.env) :: starEach [b] X.env := by rfl) (h2 : starEach [b] X.env = (false, eval b X.env) :: starEach [] X.env := by rfl) :
    MS X W (.Assign [.Tuple [.Name x px, .Name y py] kt pt] (.Tuple [a, b] k2 pt2) pos) (sAsgT (mTup (mCons ma (mCons mb mNil))) (fNames [i, j])) := by
  refine ⟨PS.weak (ps_par hc hN hi hj hij hx hy (ma_cons ha (ma_cons hb ma_nil h2) h1).pa hw hs) fun Z σ H ⟨β, S, ρ, rl, en, p⟩ => ⟨β, S, ρ, rl, en, ?_⟩⟩
  refine (Po.bind (PoS.st p en)).mono fun ds β1 S1 H1 x1 r1 q vs hv => ?_
  have no : ∀ ds : List Eng.D, ds.length ≠ 2 → Po X.K X.mg W σ β1 H1 (if ds.length ≤ sizeLine then R.ok (Eng.D.tup ds) S1 else R.stuck) (fun d β' S H' => PoS X.K X.mg W β' H' (match fNames [i, j] d ρ with
      | some ρ' => RS.fl (Fl.nx ρ') S
      | none => RS.stuck) Z) → False := fun ds hd q => by
    by_cases hs : ds.length ≤ sizeLine
    · rw [if_pos hs] at q
      have q := q β1 H1 .refl r1
      have e : fNames [i, j] (.tup ds) ρ = none := if_neg hd
      dsimp only at q
      rw [e] at q
      exact q.elim
    · rw [if_neg hs] at q
      exact q.elim
  match ds, q, hv with
  | [d1, d2], q, hv =>
    obtain ⟨v1, v2, rfl, g1, g2⟩ := hv.two
    rw [if_pos (by rw [sizeLine_eq]; simp)] at q
    exact ⟨v1, v2, rfl, q β1 H1 .refl r1 β1 H1 _ .refl r1 (((en.ext x1).set i g1).set j g2)⟩
  | [], q, hv => exact (no _ (by decide) q).elim
  | [_], q, hv => exact (no _ (by simp) q).elim
  | _ :: _ :: _ :: _, q, hv => exact (no _ (by simp) q).elim
end
end Eng

/-! The engine, part 40: what a run comes to, told by what is wished behind it. -/
namespace Eng
open PySem PySem.Spec PyProof.Rows L2
variable [TabCfg]
/-- what hangs on a, b, c: so that simp leaves them alone -/
inductive Tg {α β γ : Type} (a : α) (b : β) (c : γ) : Type where
  | mk
/-- behind a block: it goes on, it returned, it raised -/
def Wp (r : RS) (N : Env' → Sto → Prop) (R : D → Sto → Prop) (X : Exn → Env' → Sto → Prop) (_ : Tg N R X := .mk) : Prop := match r with
  | .fl (.nx ρ) S => N ρ S
  | .fl (.rt d) S => R d S
  | .ex x ρ S => X x ρ S
  | .stuck => False
/-- behind an expression -/
def We {α : Type} (r : R α) (Q : α → Sto → Prop) (X : Exn → Sto → Prop) (_ : Tg Q X () := .mk) : Prop := match r with
  | .ok a S => Q a S
  | .ex x S => X x S
  | .stuck => False
def Wo {β : Type} (o : Option β) (Q : β → Prop) (_ : Tg Q () () := .mk) : Prop := match o with
  | some b => Q b
  | none => False
def blD : D → Option Bool
  | .bl b => some b
  | _ => none
@[simp] theorem blD_bl {b : Bool} : blD (.bl b) = some b := rfl
@[simp ↓] theorem wo_some {β : Type} {b : β} {Q : β → Prop} : Wo (some b) Q = Q b := rfl
@[simp] theorem wo_none {β : Type} {Q : β → Prop} : Wo none Q = False := rfl
theorem wo_congr {β : Type} {o o' : Option β} {Q : β → Prop} (h : o = o') : Wo o Q = Wo o' Q := by rw [h]
section
variable {α γ : Type} {N : Env' → Sto → Prop} {R0 : D → Sto → Prop} {X : Exn → Env' → Sto → Prop} {Q : α → Sto → Prop} {E : Exn → Sto → Prop} {ρ : Env'} {S : Sto} {a b : Ms} {m : Mx} {k : Nat}
theorem wp_congr {r r' : RS} (h : r = r') : Wp r N R0 X = Wp r' N R0 X := by rw [h]
theorem we_congr {r r' : R α} (h : r = r') : We r Q E = We r' Q E := by rw [h]
@[simp ↓] theorem wp_nx : Wp (.fl (.nx ρ) S) N R0 X = N ρ S := rfl
@[simp ↓] theorem wp_rt {d : D} : Wp (.fl (.rt d) S) N R0 X = R0 d S := rfl
@[simp ↓] theorem wp_ex {x : Exn} : Wp (.ex x ρ S) N R0 X = X x ρ S := rfl
@[simp ↓] theorem we_ok {d : α} : We (.ok d S) Q E = Q d S := rfl
@[simp ↓] theorem we_ex {x : Exn} : We (.ex x S : R α) Q E = E x S := rfl
@[simp ↓] theorem wp_seq : Wp (sSeq a b ρ S) N R0 X = Wp (a ρ S) (fun ρ' S' => Wp (b ρ' S') N R0 X) R0 X := by
  unfold sSeq
  cases a ρ S with
  | fl f S' => cases f <;> rfl
  | ex x ρ' S' => rfl
  | stuck => rfl
theorem wp_st {β : Type} {r : R β} {f : β → Sto → RS} : Wp (r.st ρ f) N R0 X = We r (fun d S' => Wp (f d S') N R0 X) (fun x S' => X x ρ S') := by
  cases r <;> rfl
@[simp ↓] theorem wp_asg : Wp (sAsg k m ρ S) N R0 X = We (m ρ S) (fun d S' => N (ρ.set k (some d)) S') (fun x S' => X x ρ S') := by
  unfold sAsg
  rw [wp_st]
  rfl
@[simp ↓] theorem wp_expr : Wp (sExpr m ρ S) N R0 X = We (m ρ S) (fun _ S' => N ρ S') (fun x S' => X x ρ S') := by
  unfold sExpr
  rw [wp_st]
  rfl
@[simp ↓] theorem wp_ret : Wp (sRet m ρ S) N R0 X = We (m ρ S) R0 (fun x S' => X x ρ S') := by
  unfold sRet
  rw [wp_st]
  rfl
@[simp ↓] theorem wp_sif {t : Mb} : Wp (sIf t a b ρ S) N R0 X = We (t ρ S) (fun c S' => Wp (if c = true then a ρ S' else b ρ S') N R0 X) (fun x S' => X x ρ S') := by
  unfold sIf
  rw [wp_st]
@[simp ↓] theorem wp_ite {c : Prop} [Decidable c] {r r' : RS} : Wp (if c then r else r') N R0 X = if c then Wp r N R0 X else Wp r' N R0 X := by split <;> rfl
@[simp ↓] theorem we_ite {c : Prop} [Decidable c] {r r' : R α} : We (if c then r else r') Q E = if c then We r Q E else We r' Q E := by split <;> rfl
@[simp ↓] theorem we_bind {β : Type} {r : R β} {f : β → Sto → R α} : We (r.bind f) Q E = We r (fun d S' => We (f d S') Q E) E := by
  cases r <;> rfl
@[simp ↓] theorem wp_asgT {f : Ft} : Wp (sAsgT m f ρ S) N R0 X = We (m ρ S) (fun d S' => Wo (f d ρ) fun ρ' => N ρ' S') (fun x S' => X x ρ S') := by
  unfold sAsgT
  rw [wp_st]
  cases m ρ S with
  | ok d S' =>
    show Wp (match f d ρ with | some ρ' => .fl (.nx ρ') S' | none => .stuck) N R0 X = Wo (f d ρ) fun ρ' => N ρ' S'
    cases f d ρ <;> rfl
  | ex x S' => rfl
  | stuck => rfl
@[simp ↓] theorem wp_aug {f : F2} : Wp (sAug k f m ρ S) N R0 X = Wo (ρ[k]?.join) (fun x => We (m ρ S) (fun y S1 => Wo (f x y S1) fun p => N (ρ.set k (some p.1)) p.2) (fun x S' => X x ρ S')) := by
  rw [ev_aug]
  cases ρ[k]? with
  | none => rfl
  | some o => cases o with
    | none => rfl
    | some x =>
      show Wp ((m ρ S).st ρ fun y S1 => match f x y S1 with | some (d, S2) => .fl (.nx (ρ.set k (some d))) S2 | none => .stuck) N R0 X = We (m ρ S) (fun y S1 => Wo (f x y S1) fun p => N (ρ.set k (some p.1)) p.2) (fun x S' => X x ρ S')
      rw [wp_st]
      cases m ρ S with
      | ok d S' =>
        show Wp (match f x d S' with | some (d, S2) => .fl (.nx (ρ.set k (some d))) S2 | none => .stuck) N R0 X = Wo (f x d S') fun p => N (ρ.set k (some p.1)) p.2
        cases f x d S' <;> rfl
      | ex x S' => rfl
      | stuck => rfl
theorem wp_st2 {β : Type} {r : R β} {g : β → Sto → Option Sto} : Wp (r.st ρ fun d S' => match g d S' with | some S2 => .fl (.nx ρ) S2 | none => .stuck) N R0 X = We r (fun d S' => Wo (g d S') fun S2 => N ρ S2) (fun x S' => X x ρ S') := by
  rw [wp_st]
  cases r with
  | ok d S' =>
    show Wp (match g d S' with | some S2 => .fl (.nx ρ) S2 | none => .stuck) N R0 X = Wo (g d S') fun S2 => N ρ S2
    cases g d S' <;> rfl
  | ex x S' => rfl
  | stuck => rfl
@[simp ↓] theorem wp_sfld {cs : List Str} {mo mv : Mx} {f : Str} : Wp (sFld cs mo f mv ρ S) N R0 X = We (mv ρ S) (fun d S1 => We (mo ρ S1) (fun o S2 => Wo (setFld cs f o d S2) fun S3 => N ρ S3) (fun x S' => X x ρ S')) (fun x S' => X x ρ S') := by
  rw [ev_sfld, wp_st]
  cases mv ρ S with
  | ok d S' => exact wp_st2
  | ex x S' => rfl
  | stuck => rfl
@[simp ↓] theorem wp_put {mo mi mv : Mx} : Wp (sPut mo mi mv ρ S) N R0 X = We (mv ρ S) (fun d S1 => We (mo ρ S1) (fun o S2 => We (mi ρ S2) (fun i S3 => Wo (setI o i d S3) fun S4 => N ρ S4) (fun x S' => X x ρ S')) (fun x S' => X x ρ S')) (fun x S' => X x ρ S') := by
  rw [ev_put, wp_st]
  cases mv ρ S with
  | ok d S' =>
    show Wp ((mo ρ S').st ρ _) N R0 X = We (mo ρ S') _ _
    rw [wp_st]
    cases mo ρ S' with
    | ok o S2 => exact wp_st2
    | ex x S' => rfl
    | stuck => rfl
  | ex x S' => rfl
  | stuck => rfl
@[simp ↓] theorem wp_raise {m : Mk'} : Wp (sRaise m ρ S) N R0 X = We (m ρ S) (fun x S' => X x ρ S') (fun x S' => X x ρ S') := by
  unfold sRaise
  rw [wp_st]
  rfl
@[simp ↓] theorem wp_for_ev {mi : Mi} {f : Ft} : Wp (sFor mi f b ρ S) N R0 X = We (mi ρ S) (fun it S' => Wp (forF it f b it.cnt 0 ρ S') N R0 X) (fun x S' => X x ρ S') := by
  unfold sFor
  rw [wp_st]
@[simp ↓] theorem wp_try {isa : IsaT} {hs : List Hd} {els : Ms} : Wp (sTry isa b hs els ρ S) N R0 X = Wp (b ρ S) (fun ρ' S' => Wp (els ρ' S') N R0 X) R0 (fun x ρ' S' => Wp (hRun isa hs x ρ' S') N R0 X) := by
  unfold sTry
  cases b ρ S with
  | fl f S' => cases f <;> rfl
  | ex x ρ' S' => rfl
  | stuck => rfl
@[simp ↓] theorem wp_beh {j : Option Nat} {r : RS} : Wp (behind j r) N R0 X = Wp r (fun ρ' S' => N (slotD j none ρ') S') R0 (fun _ _ _ => False) := by
  unfold behind
  cases r with
  | fl f S' => cases f <;> rfl
  | ex x ρ' S' => rfl
  | stuck => rfl
@[simp ↓] theorem we_asB {r : R D} {Q : Bool → Sto → Prop} : We (asB r) Q E = We r (fun d S' => Wo (blD d) fun b => Q b S') E := by
  cases r with
  | ok d S' => cases d <;> rfl
  | ex x S' => rfl
  | stuck => rfl
@[simp] theorem wp_stuck : Wp .stuck N R0 X = False := rfl
@[simp] theorem we_stuck : We (.stuck : R α) Q E = False := rfl
theorem wp_mono {N' : Env' → Sto → Prop} {R' : D → Sto → Prop} {X' : Exn → Env' → Sto → Prop} {r : RS} (h : Wp r N R0 X) (hn : ∀ ρ S, N ρ S → N' ρ S) (hr : ∀ d S, R0 d S → R' d S) (hx : ∀ x ρ S, X x ρ S → X' x ρ S) : Wp r N' R' X' := by
  cases r with
  | fl f S => cases f with
    | nx ρ => exact hn _ _ h
    | rt d => exact hr _ _ h
  | ex x ρ S => exact hx _ _ _ h
  | stuck => exact h
/-- one step of a block by what it comes to -/
theorem wp_sq (P : Env' → Sto → Prop) (h : Wp (a ρ S) P R0 X) (k : ∀ ρ' S', P ρ' S' → Wp (b ρ' S') N R0 X) : Wp (sSeq a b ρ S) N R0 X := by
  rw [wp_seq]
  exact wp_mono h k (fun _ _ z => z) fun _ _ _ z => z
theorem We.mono {Q' : α → Sto → Prop} {E' : Exn → Sto → Prop} {r : R α} (h : We r Q E) (hq : ∀ d S, Q d S → Q' d S) (hx : ∀ x S, E x S → E' x S) : We r Q' E' := by
  cases r with
  | ok d S => exact hq _ _ h
  | ex x S => exact hx _ _ h
  | stuck => exact h
/-- no exception comes -/
theorem We.on {Q' : α → Sto → Prop} {E' : Exn → Sto → Prop} {r : R α} (h : We r Q fun _ _ => False) (hq : ∀ d S, Q d S → Q' d S) : We r Q' E' := h.mono hq fun _ _ z => z.elim
theorem We.ok {r : R α} (h : We r Q fun _ _ => False) : ∃ d S, r = .ok d S ∧ Q d S := by
  cases r with
  | ok d S => exact ⟨d, S, rfl, h⟩
  | ex x S => exact h.elim
  | stuck => exact h.elim
theorem We.of {r : R α} {d : α} {S : Sto} (h : r = .ok d S) (q : Q d S) : We r Q E := by rw [h]; exact q
theorem We.cases {r : R α} (h : We r Q E) : (∃ d S, r = .ok d S ∧ Q d S) ∨ ∃ x S, r = .ex x S ∧ E x S := by
  cases r with
  | ok d S => exact .inl ⟨d, S, rfl, h⟩
  | ex x S => exact .inr ⟨x, S, rfl, h⟩
  | stuck => exact h.elim
theorem we_def {c : Nat} {ds : List D} {Q : D → Sto → Prop} (h : Wp (b (ds.map some ++ List.replicate (c - ds.length) none) S) (fun _ S' => Q .non S') Q (fun x _ S' => E x S')) : We (mDef c b ds S) Q E := by
  unfold mDef
  generalize b (ds.map some ++ List.replicate (c - ds.length) none) S = r at *
  cases r with
  | fl f S' => cases f <;> exact h
  | ex x ρ' S' => exact h
  | stuck => exact h
/-- for, by an invariant -/
theorem wp_for {it : ItD} {f : Ft} (P : Nat → Env' → Sto → Prop) (h0 : P 0 ρ S) (step : ∀ i ρ S, i < it.cnt → P i ρ S → ∃ d, it.nx i S = some d ∧ ∃ ρ1, f d ρ = some ρ1 ∧ Wp (b ρ1 S) (P (i + 1)) R0 X)
    (fin : ∀ ρ S, P it.cnt ρ S → it.fin S = true) (done : ∀ ρ S, P it.cnt ρ S → N ρ S) : Wp (forF it f b it.cnt 0 ρ S) N R0 X := by
  have key : ∀ n i ρ S, i + n = it.cnt → P i ρ S → Wp (forF it f b n i ρ S) N R0 X := by
    intro n
    induction n with
    | zero =>
      intro i ρ S hi h
      have e : i = it.cnt := by omega
      subst e
      rw [forF_nil (fin ρ S h)]
      exact done _ _ h
    | succ n ih =>
      intro i ρ S hi h
      obtain ⟨d, e1, ρ1, e2, w⟩ := step i ρ S (by omega) h
      rw [forF_cons e1 e2]
      generalize b ρ1 S = r at *
      cases r with
      | fl g S2 => cases g with
        | nx ρ2 => exact ih (i + 1) ρ2 S2 (by omega) w
        | rt d2 => exact w
      | ex x ρ2 S2 => exact w
      | stuck => exact w
  exact key it.cnt 0 ρ S (by omega) h0
theorem wp_while {c : Mb} (P : Nat → Env' → Sto → Prop) (n : Nat) (h0 : P n ρ S) (step : ∀ n ρ S, P n ρ S → We (c ρ S) (fun k S1 => if k = true then Wp (b ρ S1) (fun ρ' S' => ∃ m, m < n ∧ P m ρ' S') R0 X else N ρ S1) (fun x S1 => X x ρ S1)) : Wp (sWhile c b ρ S) N R0 X := by
  have key : ∀ n ρ S, P n ρ S → ∃ j, Wp (whileF c b j ρ S) N R0 X := by
    intro n
    induction n using Nat.strongRecOn with
    | _ n ih =>
      intro ρ S h
      have w := step n ρ S h
      generalize hc : c ρ S = r at w
      cases r with
      | ok k S1 =>
        cases k with
        | false =>
          refine ⟨1, ?_⟩
          rw [whileF, hc]
          exact w
        | true =>
          have w' : Wp (b ρ S1) (fun ρ' S' => ∃ m, m < n ∧ P m ρ' S') R0 X := w
          generalize hb : b ρ S1 = r at w'
          cases r with
          | fl g S2 => cases g with
            | nx ρ2 =>
              obtain ⟨m, hm, hp⟩ := w'
              obtain ⟨j, hj⟩ := ih m hm ρ2 S2 hp
              refine ⟨j + 1, ?_⟩
              rw [whileF, hc]
              simp only [R.st, if_true, hb]
              exact hj
            | rt d =>
              refine ⟨1, ?_⟩
              rw [whileF, hc]
              simp only [R.st, if_true, hb]
              exact w'
          | ex x ρ2 S2 =>
            refine ⟨1, ?_⟩
            rw [whileF, hc]
            simp only [R.st, if_true, hb]
            exact w'
          | stuck => exact w'.elim
      | ex x S1 =>
        refine ⟨1, ?_⟩
        rw [whileF, hc]
        exact w
      | stuck => exact w.elim
  obtain ⟨j, hj⟩ := key n ρ S h0
  rw [sWhile_eq (n := j) rfl (by intro e; rw [e] at hj; exact hj)]
  exact hj
/-- [m for ..] by an invariant; the list stands at n -/
theorem we_lc {it : ItD} {f : Ft} {mt : Mb} {n : Nat} {Q : D → Sto → Prop} (P : Nat → Sto → Prop) (h0 : P 0 S) (step : ∀ i S, i < it.cnt → P i S → ∃ d, it.nx i S = some d ∧ ∃ ρ1, f d ρ = some ρ1 ∧
      ∃ k S1, mt ρ1 S = .ok k S1 ∧ if k = true then We (m ρ1 S1) (fun y S2 => ∃ acc, S2[n]? = some (.lst acc) ∧ acc.length < 16777216 ∧ P (i + 1) (S2.set n (.lst (acc ++ [y])))) (fun _ _ => False) else P (i + 1) S1)
    (fin : ∀ S, P it.cnt S → it.fin S = true) (done : ∀ S, P it.cnt S → Q (.ref n) S) : We (lcF it f mt m ρ n it.cnt 0 S) Q E := by
  obtain ⟨S', e, p⟩ := lc_inv (it := it) (f := f) (mt := mt) (m := m) (ρ := ρ) (n := n) P (fun i S hi hp => by
    obtain ⟨d, e1, ρ1, e2, k, S1, e3, w⟩ := step i S hi hp
    refine ⟨d, ρ1, e1, e2, ?_⟩
    cases k with
    | false => exact .inl ⟨S1, e3, w⟩
    | true =>
      obtain ⟨y, S2, e4, acc, e5, e6, e7⟩ := We.ok (show We (m ρ1 S1) _ _ from w)
      exact .inr ⟨S1, y, S2, acc, e3, e4, e5, e6, e7⟩) fin h0
  rw [e]
  exact done _ p
end
end Eng

/-! The engine, part 41: comprehensions that only add to the store; lists of truths compared. -/
namespace Eng
open PySem PySem.Spec PyProof.Rows L2
variable [TabCfg]
section
variable {ρ : Env'} {S : Sto} {mi : Mi} {f : Ft} {mt : Mb} {m : Mx} {own : List Nat} {n : Nat} {r : List Nat}
@[simp] theorem wipeD_nil : wipeD ρ [] = ρ := rfl
@[simp] theorem wipeD_cons : wipeD ρ (n :: r) = (wipeD ρ r).set n none := rfl
@[simp ↓] theorem we_mlc {Q : D → Sto → Prop} {E : Exn → Sto → Prop} : We (mLc mi f mt m own ρ S) Q E = We (mi ρ S) (fun it S1 => We (lcF it f mt m (wipeD ρ own) S1.length it.cnt 0 (S1 ++ [.lst []])) Q E) E := by
  unfold mLc
  rw [we_bind]
/-- each part adds to the store alone -/
theorem lc_gro {it : ItD} (V : Nat → D → Prop) (hc : it.cnt < 16777216) (step : ∀ i S', i < it.cnt → (∃ G, S' = S ++ G) → ∃ d, it.nx i S' = some d ∧ ∃ ρ1, f d ρ = some ρ1 ∧ ∃ y G, m ρ1 S' = .ok y (S' ++ G) ∧ V i y)
    (fin : ∀ G, it.fin (S ++ G) = true) : ∃ ys G, lcF it f mYes m ρ S.length it.cnt 0 (S ++ [.lst []]) = .ok (.ref S.length) (S ++ .lst ys :: G) ∧ ys.length = it.cnt ∧ ∀ i y, ys[i]? = some y → V i y := by
  obtain ⟨S', e, ys, G, q1, q2, q3⟩ := lc_inv (it := it) (f := f) (mt := mYes) (m := m) (ρ := ρ) (n := S.length) (fun i S' => ∃ ys G, S' = S ++ .lst ys :: G ∧ ys.length = i ∧ ∀ k y, ys[k]? = some y → V k y)
    (fun i S' hi ⟨ys, G, q1, q2, q3⟩ => by
      subst q1
      obtain ⟨d, e1, ρ1, e2, y, G2, e3, e4⟩ := step i (S ++ .lst ys :: G) hi ⟨_, rfl⟩
      refine ⟨d, ρ1, e1, e2, .inr ⟨_, y, _, ys, rfl, e3, ?_, by omega, ys ++ [y], G ++ G2, ?_, by simp [q2], fun k z hz => ?_⟩⟩
      · rw [List.append_assoc, app_at0]
        rfl
      · rw [List.append_assoc, app_set0]
        rfl
      · by_cases hk : k < ys.length
        · rw [List.getElem?_append_left hk] at hz
          exact q3 k z hz
        · have hk2 : k = ys.length := by
            have := (List.getElem?_eq_some_iff.mp hz).1
            simp at this
            omega
          subst hk2
          simp at hz
          subst hz
          rw [q2]
          exact e4)
    (fun S' ⟨ys, G, q1, _⟩ => by rw [q1]; exact fin _) (S := S ++ [.lst []]) ⟨[], [], rfl, rfl, fun k y h => by simp at h⟩
  subst q1
  exact ⟨ys, G, e, q2, q3⟩
theorem lc_map {it : ItD} (v : Nat → D) (hc : it.cnt < 16777216) (step : ∀ i S', i < it.cnt → (∃ G, S' = S ++ G) → ∃ d, it.nx i S' = some d ∧ ∃ ρ1, f d ρ = some ρ1 ∧ ∃ G, m ρ1 S' = .ok (v i) (S' ++ G))
    (fin : ∀ G, it.fin (S ++ G) = true) : ∃ G, lcF it f mYes m ρ S.length it.cnt 0 (S ++ [.lst []]) = .ok (.ref S.length) (S ++ .lst ((List.range it.cnt).map v) :: G) := by
  obtain ⟨ys, G, e, h1, h2⟩ := lc_gro (fun i y => y = v i) hc (fun i S' hi h => by
    obtain ⟨d, e1, ρ1, e2, G, e3⟩ := step i S' hi h
    exact ⟨d, e1, ρ1, e2, v i, G, e3, rfl⟩) fin
  have : ys = (List.range it.cnt).map v := by
    refine List.ext_getElem? fun i => ?_
    by_cases hi : i < it.cnt
    · rw [List.getElem?_map, List.getElem?_range hi, List.getElem?_eq_getElem (by omega)]
      have := h2 i _ (List.getElem?_eq_getElem (by omega))
      rw [this]
      rfl
    · rw [List.getElem?_eq_none (by omega), List.getElem?_eq_none (by simp; omega)]
  rw [← this]
  exact ⟨G, e⟩
theorem we_lcg {it : ItD} {Q : D → Sto → Prop} {E : Exn → Sto → Prop} (V : Nat → D → Prop) (hc : it.cnt < 16777216) (step : ∀ i S', i < it.cnt → (∃ G, S' = S ++ G) → ∃ d, it.nx i S' = some d ∧ ∃ ρ1, f d ρ = some ρ1 ∧ ∃ y G, m ρ1 S' = .ok y (S' ++ G) ∧ V i y)
    (fin : ∀ G, it.fin (S ++ G) = true) (done : ∀ ys G, ys.length = it.cnt → (∀ i y, ys[i]? = some y → V i y) → Q (.ref S.length) (S ++ .lst ys :: G)) : We (lcF it f mYes m ρ S.length it.cnt 0 (S ++ [.lst []])) Q E := by
  obtain ⟨ys, G, e, h1, h2⟩ := lc_gro V hc step fin
  rw [e]
  exact done ys G h1 h2
theorem we_lcm {it : ItD} {Q : D → Sto → Prop} {E : Exn → Sto → Prop} (v : Nat → D) (hc : it.cnt < 16777216) (step : ∀ i S', i < it.cnt → (∃ G, S' = S ++ G) → ∃ d, it.nx i S' = some d ∧ ∃ ρ1, f d ρ = some ρ1 ∧ ∃ G, m ρ1 S' = .ok (v i) (S' ++ G))
    (fin : ∀ G, it.fin (S ++ G) = true) (done : ∀ G, Q (.ref S.length) (S ++ .lst ((List.range it.cnt).map v) :: G)) : We (lcF it f mYes m ρ S.length it.cnt 0 (S ++ [.lst []])) Q E := by
  obtain ⟨G, e⟩ := lc_map v hc step fin
  rw [e]
  exact done G
end
/-! lists of truths -/
theorem toPys_bls {S : Sto} {n : Nat} : ∀ xs : List Bool, toPys S n (xs.map D.bl) = some (xs.map PyData.bool)
  | [] => by unfold toPys; rfl
  | x :: xs => by
    rw [List.map_cons, toPys, toPys_bls xs, toPy]
    rfl
theorem eqvAll_bls : ∀ xs ys : List Bool, PyData.eqvAll (xs.map PyData.bool) (ys.map PyData.bool) = decide (xs = ys)
  | [], [] => by simp [PyData.eqvAll]
  | [], y :: ys => by simp [PyData.eqvAll]
  | x :: xs, [] => by simp [PyData.eqvAll]
  | x :: xs, y :: ys => by
    rw [List.map_cons, List.map_cons, PyData.eqvAll, eqvAll_bls xs ys, PyData.eqv]
    rw [Bool.eq_iff_iff]
    simp
theorem canLay_bls : ∀ xs : List Bool, PyData.canLayAll0 (xs.map PyData.bool) = true
  | [] => by simp [PyData.canLayAll0]
  | x :: xs => by
    rw [List.map_cons, PyData.canLayAll0, canLay_bls xs, PyData.canLay0]
    rfl
theorem depth_bls : ∀ xs : List Bool, PyData.depthAll (xs.map PyData.bool) = 0
  | [] => by simp [PyData.depthAll]
  | x :: xs => by
    rw [List.map_cons, PyData.depthAll, depth_bls xs, PyData.depth]
    rfl
theorem shaped_bls (xs : List Bool) : SeqAt.shaped (.list (xs.map PyData.bool)) = true := by
  unfold SeqAt.shaped
  rw [PyData.canLay0, canLay_bls, PyData.depth, depth_bls]
  rfl
theorem eqD_bls {S : Sto} {a b : Nat} {xs ys : List Bool} (h1 : lstAt S a = some (xs.map D.bl)) (h2 : lstAt S b = some (ys.map D.bl)) : eqD S (.ref a) (.ref b) = some (decide (xs = ys)) := by
  show deepEq S _ _ = _
  unfold deepEq
  rw [toPy, toPy, h1, h2]
  dsimp only
  rw [toPys_bls, toPys_bls]
  dsimp only [Option.map]
  rw [shaped_bls, shaped_bls]
  simp only [Bool.and_self, if_true]
  rw [PyData.eqv, eqvAll_bls]
/-- lists of whole numbers and texts -/
theorem eqD_lpts {S : Sto} {a b : Nat} {xs ys : List D} (l1 : lstAt S a = some xs) (l2 : lstAt S b = some ys) (h1 : ∀ d ∈ xs, isPt d = true) (h2 : ∀ d ∈ ys, isPt d = true) (k1 : ∀ d ∈ xs, okPt d = true) (k2 : ∀ d ∈ ys, okPt d = true) : ∃ c, eqD S (.ref a) (.ref b) = some c ∧ (c = true ↔ xs = ys) := by
  have s : ∀ zs : List D, (∀ d ∈ zs, okPt d = true) → SeqAt.shaped (.list (zs.map ptPy)) = true := by
    intro zs hk
    unfold SeqAt.shaped
    rw [PyData.canLay0, canLay_pts zs hk, PyData.depth, depth_pts]
    rfl
  refine ⟨_, ?_, eqvAll_pts xs ys h1 h2⟩
  show deepEq S _ _ = _
  unfold deepEq
  rw [toPy, toPy, l1, l2]
  dsimp only
  rw [toPys_pts xs h1, toPys_pts ys h2]
  dsimp only [Option.map]
  rw [s xs k1, s ys k2]
  simp only [Bool.and_self, if_true]
  rw [PyData.eqv]
/-- two whole numbers or texts -/
theorem eqD_pt2 {S : Sto} {d e : D} (h1 : isPt d = true) (h2 : isPt e = true) : ∃ c, eqD S d e = some c ∧ (c = true ↔ d = e) := by
  cases d <;> first | (cases h1; done) | skip
  all_goals cases e <;> first | (cases h2; done) | skip
  · exact ⟨_, eqD_int, by simp⟩
  · exact ⟨false, rfl, by simp⟩
  · exact ⟨false, rfl, by simp⟩
  · exact ⟨_, eqD_str, by simp⟩
end Eng

set_option maxHeartbeats 2000000
/-! The engine, part 42: a method called by its class; isinstance of own objects. -/
namespace Eng
open PySem PySem.Spec PyProof.Rows L2
variable [TabCfg]
/-- what the written part must say of C.m, a def -/
structure BaseC (K : PySem.W.Frag) (C : Addr) (m : Str) (f : Addr) : Prop where
  rd : PySem.W.readsIn K C (.type "type") = true
  ga : PySem.W.specialIn K (.ref C) "__getattribute__" = some (some (.builtin "type.__getattribute__"))
  at_ : PySem.W.findCls K (.ref C) (.type "type") m = some (.val (.ref f))
def baseB (K : PySem.W.Frag) (C : Addr) (m : Str) (f : Addr) : Bool := PySem.W.readsIn K C (.type "type") && (decide (PySem.W.specialIn K (.ref C) "__getattribute__" = some (some (.builtin "type.__getattribute__"))) &&
  match PySem.W.findCls K (.ref C) (.type "type") m with
  | some (.val v) => decide (v = .ref f)
  | _ => false)
theorem baseB_ok {K : PySem.W.Frag} {C : Addr} {m : Str} {f : Addr} (h : baseB K C m f = true) : BaseC K C m f := by
  unfold baseB at h
  obtain ⟨h1, h⟩ := Bool.and_eq_true_iff.mp h
  obtain ⟨h2, h3⟩ := Bool.and_eq_true_iff.mp h
  refine ⟨h1, of_decide_eq_true h2, ?_⟩
  split at h3
  · rename_i v e
    rw [e, of_decide_eq_true h3]
  · cases h3
section
variable {X : Cx} {W : WX} {e : Expr} {es : List Expr} {ma : Ma} {p p1 p2 pos : Pos} {x mn : Str} {Cb f : Addr} {fd : FuncData} {ps : List Str} {k j n : Nat} {g : List D → Sto → R D}
theorem me_base {pl : Sem Bool} (C : BaseC X.K Cb mn f) (hm : X.mg x = some (.ref Cb)) (F : FnOk X.prog X.w X.K X.mg X.base (L2.CX X.prog X.w) k f fd ps (spM X.K X.mg n g)) (hr : Room j X.A) (hk : PySem.W.keepIn X.K (.ref f) = true) (hb : Binds X.K fd ps []) (tk : Takes X W) (ha : MA X W (e :: es) ma) (hl : ∀ β H vs ds ρ S S', Vds X.K X.mg β H vs ds → ma ρ S = .ok ds S' → vs.length = n)
    (hkj : k ≤ j := by decide) (hg : Gl X x := by rfl) (hdb : (x == ("__debug__" : Str)) = false := by decide)
    (hc : eval (.Call (.Attribute (.Name x p1) mn p2) (e :: es) [] pos) X.env = (do
      let ov ← eval (.Name x p1) X.env
      standAt p2.atName
      let (f, first) ← holding [ov] (getMethod ov mn pl)
      callWith pos f first (backTo pos (starEach (e :: es) X.env)) (backToKw pos (keywordEach [] X.env))) := by rfl)
    (he : starEach (e :: es) X.env = (false, eval e X.env) :: starEach es X.env := by rfl) (hpl : (backTo pos (starEach es X.env)).any (·.1) = false := by rfl) :
    ME X W (.Call (.Attribute (.Name x p1) mn p2) (e :: es) [] pos) (mCall g ma) := by
  refine ⟨⟨fun pins s σ H Q I ⟨β, S, ρ, rl, en, q⟩ => ?_⟩⟩
  refine PySem.W.methodCall_KW (ld_glob I hg hm ?_ hdb) hc
  refine PySem.W.method_cls I.kIn C.ga (PySem.W.cls_value I.kIn C.rd C.at_ (by rfl) ?_)
  have q2 := (show Po X.K X.mg W σ β H ((ma ρ S).bind g) _ from q).bind
  have step : tMA X.K X.mg W ma σ H fun vs H2 => spM X.K X.mg n g vs H2 Q (WE W σ) := by
    refine ⟨β, S, ρ, rl, en, ?_⟩
    cases e2 : ma ρ S with
    | ok ds S2 =>
      rw [e2] at q2
      exact fun β2 H2 x2 r2 vs hvs => call_sp (X := X) (hl β2 H2 vs ds ρ S S2 hvs e2) r2 hvs (q2 β2 H2 x2 r2)
    | ex z S2 => rw [e2] at q2; exact q2
    | stuck => rw [e2] at q2; exact q2
  exact PySem.W.callWith_K (first := []) (h₀ := X.base) I.ok.mod.kin hk (thn (ha.pa.run pos pins _ σ H _ (I.tok _) step) fun us s2 ⟨vs, H2, I2, r, h2⟩ => ⟨I2.kIn, run_fnS (E := WE W) F (hr.mono hkj) hb (passAt tk σ) I2 r h2⟩) he hpl
end
/-! ### isinstance of own objects -/
structure InsC (K : PySem.W.Frag) (C : Addr) : Prop where
  ha : PySem.W.findIn K (.ref C) "__class__" = some (some (.builtin "object.__class__"))
  hn : PySem.W.specialIn K (.builtin "object.__class__") "__get__" = some (some (.builtin "getset_descriptor.__get__"))
  ht : PySem.W.takesIn K (.builtin "object.__class__") = some true
  hm : PySem.W.mroIn K C (.type "object") = some true
def insB (K : PySem.W.Frag) (C : Addr) : Bool := decide (PySem.W.findIn K (.ref C) "__class__" = some (some (.builtin "object.__class__"))) && (decide (PySem.W.specialIn K (.builtin "object.__class__") "__get__" = some (some (.builtin "getset_descriptor.__get__"))) && (decide (PySem.W.takesIn K (.builtin "object.__class__") = some true) && decide (PySem.W.mroIn K C (.type "object") = some true)))
theorem insB_ok {K : PySem.W.Frag} {C : Addr} (h : insB K C = true) : InsC K C := by
  unfold insB at h
  simp only [Bool.and_eq_true, decide_eq_true_eq] at h
  obtain ⟨h1, h2, h3, h4⟩ := h
  exact ⟨h1, h2, h3, h4⟩
structure IsbOk (K : PySem.W.Frag) (mg : Str → Option Value) (isb : IsaT) : Prop where
  kit : ∀ y c b Cy Cc, isb y c = some b → mg y = some (.ref Cy) → mg c = some (.ref Cc) → PySem.W.kitOne K (.ref Cy) (.ref Cc) = some b
  ins : ∀ y c b Cy, isb y c = some b → mg y = some (.ref Cy) → InsC K Cy
theorem isbOk_of {K : PySem.W.Frag} {mg : Str → Option Value} {l : List (Str × Str × Bool)}
    (h : allL (fun p => ∃ Cy Cc, mg p.1 = some (.ref Cy) ∧ mg p.2.1 = some (.ref Cc) ∧ PySem.W.kitOne K (.ref Cy) (.ref Cc) = some p.2.2 ∧ InsC K Cy) l) : IsbOk K mg (isaOf l) := by
  have at1 : ∀ y c b, isaOf l y c = some b → ∃ Cy Cc, mg y = some (.ref Cy) ∧ mg c = some (.ref Cc) ∧ PySem.W.kitOne K (.ref Cy) (.ref Cc) = some b ∧ InsC K Cy := by
    intro y c b e
    unfold isaOf at e
    cases q : l.find? fun p => decide (p.1 = y ∧ p.2.1 = c) with
    | none => rw [q] at e; cases e
    | some p =>
      rw [q] at e
      cases e
      have z := List.find?_some q
      obtain ⟨rfl, rfl⟩ := of_decide_eq_true z
      exact allL_mem h p (List.mem_of_find?_eq_some q)
  refine ⟨fun y c b Cy Cc e h1 h2 => ?_, fun y c b Cy e h1 => ?_⟩
  · obtain ⟨u, v, z1, z2, z3, z4⟩ := at1 y c b e
    rw [h1] at z1; cases z1
    rw [h2] at z2; cases z2
    exact z3
  · obtain ⟨u, v, z1, z2, z3, z4⟩ := at1 y c b e
    rw [h1] at z1; cases z1
    exact z4
def fIsZ (isb : IsaT) (g : FA) : FA
  | [.ref n, .gl c], S => match S[n]? with
    | some (.ins y _) => (isb y c).map fun b => (.bl b, S)
    | _ => g [.ref n, .gl c] S
  | ds, S => g ds S
section
variable {X : Cx} {W : WX} {pos p : Pos} {isb : IsaT} {g : FA} {r0 : List V → Hp → VK → Prop}
theorem o_isZ (T : IsbOk X.K X.mg isb) (o : OpA X r0 g) : OpA X (fun xs H Q => rIsi X.K xs H Q ∨ r0 xs H Q) (fIsZ isb g) := by
  intro β H S xs vs d S' Q r hv e k
  have base : g xs S = some (d, S') → rIsi X.K vs H Q ∨ r0 vs H Q := fun e => .inr (o β H S xs vs d S' Q r hv e k)
  unfold fIsZ at e
  split at e
  · rename_i n c
    split at e
    · rename_i y fs q
      obtain ⟨v, w, rfl, h1, h2⟩ := hv.two
      cases q2 : isb y c with
      | none => rw [q2] at e; cases e
      | some b =>
        rw [q2] at e
        cases e
        obtain ⟨a, rfl, h3⟩ := h1.ref_inv
        obtain ⟨Ca, dx, xs, g1, g2, g3, g4, g5⟩ := ins_of r h3 q
        obtain ⟨z1, z2, z3, z4⟩ := T.ins _ _ _ _ q2 g1
        cases h2 with
        | gl h7 => exact .inl ⟨.ref a, _, .ref Ca, _, b, rfl, .own _, .base (.ins g2 g4 z1 z2 z3 z4), T.kit _ _ _ _ _ q2 g1 h7, k β H _ .refl r (.bl b)⟩
    · exact base e
  · exact base e
theorem me_isz {e c : Expr} {m mc : Mx} (T : IsbOk X.K X.mg isb) (c0 : CallR X (.builtin "isinstance") r0) (o0 : OpA X r0 g) (hm : X.mg "isinstance" = none) (ha : ME X W e m) (hc : ME X W c mc) (hg : Gl X "isinstance" := by rfl) (hs : starEach [e, c] X.env = [(false, eval e X.env), (false, eval c X.env)] := by rfl) (hs2 : starEach [c] X.env = [(false, eval c X.env)] := by rfl) :
    ME X W (.Call (.Name "isinstance" p) [e, c] [] pos) (mCB (fIsZ isb g) (mCons m (mCons mc mNil))) :=
  me_cb (CallR.or call_isi c0) (o_isZ T o0) (ma_cons ha (ma_cons hc ma_nil hs2) (by rw [hs, hs2])) hm (by decide +kernel) hg (by decide) (by decide) (by rw [hs, hs2]) (by rw [hs2]; rfl)
/-- without own exceptions -/
theorem me_isz0 {e c : Expr} {m mc : Mx} (T : IsbOk X.K X.mg isb) (hm : X.mg "isinstance" = none) (ha : ME X W e m) (hc : ME X W c mc) (hg : Gl X "isinstance" := by rfl) (hs : starEach [e, c] X.env = [(false, eval e X.env), (false, eval c X.env)] := by rfl) (hs2 : starEach [c] X.env = [(false, eval c X.env)] := by rfl) :
    ME X W (.Call (.Name "isinstance" p) [e, c] [] pos) (mCB (fIsZ isb fIsi) (mCons m (mCons mc mNil))) := me_isz T call_isi o_isi hm ha hc hg hs hs2
end
section
variable {S : Sto} {c : Str} {isb : IsaT} {n : Nat} {g : FA}
@[simp] theorem fIsZ_gl : fIsZ isb g [.ref n, .gl c] S = match S[n]? with
    | some (.ins y _) => (isb y c).map fun b => (.bl b, S)
    | _ => g [.ref n, .gl c] S := rfl
@[simp] theorem fIsZ_ty {d : D} {t : String} : fIsZ isb g [d, .ty t] S = g [d, .ty t] S := by cases d <;> rfl
end
end Eng

/-! The engine, part 43: levels. -/
namespace Eng
open PySem PySem.Spec PyProof.Rows L2
theorem lev {P : Program} {w : World} {K : PySem.W.Frag} {mg : Str → Option Value} {base : Heap} {CX : CXT} {k j : Nat} {f : Addr} {fd : FuncData} {ps : List Str} {sp : Sp} (e : k = j) (h : FnOk P w K mg base CX k f fd ps sp) : FnOk P w K mg base CX j f fd ps sp := by
  subst e
  exact h
end Eng

/-! The engine, part 44: what stands in the store as data; == of such things. -/
namespace Eng
open PySem PySem.Spec PyProof.Rows L2
variable [TabCfg]
mutual
inductive Rp (S : Sto) : D → PyData → Prop
  | non : Rp S .non .none
  | bl (b : Bool) : Rp S (.bl b) (.bool b)
  | int (i : Int) : Rp S (.int i) (.int i)
  | str (z : Str) : Rp S (.str z) (.str z)
  | tup {ds : List D} {ps : List PyData} : Rps S ds ps → Rp S (.tup ds) (.tuple ps)
  | ref {m : Nat} {ds : List D} {ps : List PyData} : lstAt S m = some ds → Rps S ds ps → Rp S (.ref m) (.list ps)
inductive Rps (S : Sto) : List D → List PyData → Prop
  | nil : Rps S [] []
  | cons {d : D} {p : PyData} {ds : List D} {ps : List PyData} : Rp S d p → Rps S ds ps → Rps S (d :: ds) (p :: ps)
end
mutual
theorem Rp.toPy {S : Sto} : ∀ {d : D} {p : PyData}, Rp S d p → ∀ n, p.depth ≤ n → toPy S n d = some p
  | _, _, .non, n, _ => by unfold Eng.toPy; rfl
  | _, _, .bl _, n, _ => by unfold Eng.toPy; rfl
  | _, _, .int _, n, _ => by unfold Eng.toPy; rfl
  | _, _, .str _, n, _ => by unfold Eng.toPy; rfl
  | _, _, .tup (ps := ps) h, n, hn => by
    rw [PyData.depth] at hn
    obtain ⟨n, rfl⟩ : ∃ k, n = k + 1 := ⟨n - 1, by omega⟩
    rw [Eng.toPy, h.toPys n (by omega)]
    rfl
  | _, _, .ref (ps := ps) h1 h, n, hn => by
    rw [PyData.depth] at hn
    obtain ⟨n, rfl⟩ : ∃ k, n = k + 1 := ⟨n - 1, by omega⟩
    rw [Eng.toPy, h1]
    dsimp only
    rw [h.toPys n (by omega)]
    rfl
theorem Rps.toPys {S : Sto} : ∀ {ds : List D} {ps : List PyData}, Rps S ds ps → ∀ n, PyData.depthAll ps ≤ n → toPys S n ds = some ps
  | _, _, .nil, n, _ => by unfold Eng.toPys; rfl
  | _, _, .cons h t, n, hn => by
    rw [PyData.depthAll] at hn
    rw [Eng.toPys, h.toPy n (by omega), t.toPys n (by omega)]
end
mutual
theorem Rp.more {S G : Sto} : ∀ {d : D} {p : PyData}, Rp S d p → Rp (S ++ G) d p
  | _, _, .non => .non
  | _, _, .bl b => .bl b
  | _, _, .int i => .int i
  | _, _, .str z => .str z
  | _, _, .tup h => .tup h.more
  | _, _, .ref h1 h => .ref (lstAt_more h1) h.more
theorem Rps.more {S G : Sto} : ∀ {ds : List D} {ps : List PyData}, Rps S ds ps → Rps (S ++ G) ds ps
  | _, _, .nil => .nil
  | _, _, .cons h t => .cons h.more t.more
end
theorem Rps.app {S : Sto} : ∀ {ds es : List D} {ps qs : List PyData}, Rps S ds ps → Rps S es qs → Rps S (ds ++ es) (ps ++ qs)
  | _, _, _, _, .nil, h => h
  | _, _, _, _, .cons h t, k => .cons h (t.app k)
/-- == of two things that are no scalars -/
theorem eqD_rp {S : Sto} {a b : D} {p q : PyData} (hs : scalEq a b = none) (ha : Rp S a p) (hb : Rp S b q) (sp : SeqAt.shaped p = true) (sq : SeqAt.shaped q = true) : eqD S a b = some (PyData.eqv p q) := by
  have d1 : p.depth ≤ 64 := by
    unfold SeqAt.shaped at sp
    exact of_decide_eq_true (Bool.and_eq_true_iff.mp sp).2
  have d2 : q.depth ≤ 64 := by
    unfold SeqAt.shaped at sq
    exact of_decide_eq_true (Bool.and_eq_true_iff.mp sq).2
  unfold eqD
  rw [hs]
  show deepEq S a b = _
  unfold deepEq
  rw [ha.toPy 64 d1, hb.toPy 64 d2]
  dsimp only
  rw [sp, sq]
  rfl
/-- .. of one data -/
theorem eqD_same {S : Sto} {a b : D} {p : PyData} (hs : scalEq a b = none) (ha : Rp S a p) (hb : Rp S b p) (sp : SeqAt.shaped p = true) : eqD S a b = some true := by
  rw [eqD_rp hs ha hb sp sp, SeqAt.eqv_refl]
  unfold SeqAt.shaped at sp
  exact (Bool.and_eq_true_iff.mp sp).1
/-! no truths within: == is sameness -/
mutual
inductive Nb : PyData → Prop
  | none : Nb .none
  | int (i : Int) : Nb (.int i)
  | str (z : Str) : Nb (.str z)
  | tuple {ps : List PyData} : Nbs ps → Nb (.tuple ps)
  | list {ps : List PyData} : Nbs ps → Nb (.list ps)
inductive Nbs : List PyData → Prop
  | nil : Nbs []
  | cons {p : PyData} {ps : List PyData} : Nb p → Nbs ps → Nbs (p :: ps)
end
mutual
theorem Nb.eqv : ∀ {p q : PyData}, Nb p → Nb q → (PyData.eqv p q = true ↔ p = q)
  | _, _, .none, .none => by simp [PyData.eqv]
  | _, _, .none, .int _ => by simp [PyData.eqv]
  | _, _, .none, .str _ => by simp [PyData.eqv]
  | _, _, .none, .tuple _ => by simp [PyData.eqv]
  | _, _, .none, .list _ => by simp [PyData.eqv]
  | _, _, .int _, .none => by simp [PyData.eqv]
  | _, _, .int _, .int _ => by simp [PyData.eqv]
  | _, _, .int _, .str _ => by simp [PyData.eqv]
  | _, _, .int _, .tuple _ => by simp [PyData.eqv]
  | _, _, .int _, .list _ => by simp [PyData.eqv]
  | _, _, .str _, .none => by simp [PyData.eqv]
  | _, _, .str _, .int _ => by simp [PyData.eqv]
  | _, _, .str _, .str _ => by simp [PyData.eqv]
  | _, _, .str _, .tuple _ => by simp [PyData.eqv]
  | _, _, .str _, .list _ => by simp [PyData.eqv]
  | _, _, .tuple _, .none => by simp [PyData.eqv]
  | _, _, .tuple _, .int _ => by simp [PyData.eqv]
  | _, _, .tuple _, .str _ => by simp [PyData.eqv]
  | _, _, .tuple h, .tuple k => by
    rw [PyData.eqv, Nbs.eqv h k]
    simp
  | _, _, .tuple _, .list _ => by simp [PyData.eqv]
  | _, _, .list _, .none => by simp [PyData.eqv]
  | _, _, .list _, .int _ => by simp [PyData.eqv]
  | _, _, .list _, .str _ => by simp [PyData.eqv]
  | _, _, .list _, .tuple _ => by simp [PyData.eqv]
  | _, _, .list h, .list k => by
    rw [PyData.eqv, Nbs.eqv h k]
    simp
theorem Nbs.eqv : ∀ {ps qs : List PyData}, Nbs ps → Nbs qs → (PyData.eqvAll ps qs = true ↔ ps = qs)
  | _, _, .nil, .nil => by simp [PyData.eqvAll]
  | _, _, .nil, .cons _ _ => by simp [PyData.eqvAll]
  | _, _, .cons _ _, .nil => by simp [PyData.eqvAll]
  | _, _, .cons h t, .cons k u => by
    rw [PyData.eqvAll, Bool.and_eq_true, Nb.eqv h k, Nbs.eqv t u]
    simp
end
/-! tuples of whole numbers and texts -/
theorem rps_pts {S : Sto} : ∀ {ds : List D}, (∀ d ∈ ds, isPt d = true) → Rps S ds (ds.map ptPy)
  | [], _ => .nil
  | d :: ds, h => by
    refine .cons ?_ (rps_pts fun x hx => h x (List.mem_cons_of_mem _ hx))
    have := h d (List.mem_cons_self ..)
    cases d <;> first | (cases this; done) | exact .int _ | exact .str _
theorem nbs_pts : ∀ {ds : List D}, (∀ d ∈ ds, isPt d = true) → Nbs (ds.map ptPy)
  | [], _ => .nil
  | d :: ds, h => by
    refine .cons ?_ (nbs_pts fun x hx => h x (List.mem_cons_of_mem _ hx))
    have := h d (List.mem_cons_self ..)
    cases d <;> first | (cases this; done) | exact .int _ | exact .str _
/-- a list of such tuples -/
def tupsPy (ts : List (List D)) : List PyData := ts.map fun t => .tuple (t.map ptPy)
theorem rps_tups {S : Sto} : ∀ {ts : List (List D)}, (∀ t ∈ ts, ∀ d ∈ t, isPt d = true) → Rps S (ts.map D.tup) (tupsPy ts)
  | [], _ => .nil
  | t :: ts, h => .cons (.tup (rps_pts (h t (List.mem_cons_self ..)))) (rps_tups fun x hx => h x (List.mem_cons_of_mem _ hx))
theorem nbs_tups : ∀ {ts : List (List D)}, (∀ t ∈ ts, ∀ d ∈ t, isPt d = true) → Nbs (tupsPy ts)
  | [], _ => .nil
  | t :: ts, h => .cons (.tuple (nbs_pts (h t (List.mem_cons_self ..)))) (nbs_tups fun x hx => h x (List.mem_cons_of_mem _ hx))
theorem lay_tups : ∀ {ts : List (List D)}, (∀ t ∈ ts, ∀ d ∈ t, okPt d = true) → PyData.canLayAll0 (tupsPy ts) = true ∧ PyData.depthAll (tupsPy ts) ≤ 1
  | [], _ => by simp [tupsPy, PyData.canLayAll0, PyData.depthAll]
  | t :: ts, h => by
    obtain ⟨h1, h2⟩ := lay_tups (ts := ts) fun x hx => h x (List.mem_cons_of_mem _ hx)
    have h3 := canLay_pts t (h t (List.mem_cons_self ..))
    have h4 := depth_pts t
    unfold tupsPy at *
    rw [List.map_cons, PyData.canLayAll0, PyData.depthAll, PyData.canLay0, PyData.depth, h1, h3, h4]
    exact ⟨rfl, by omega⟩
theorem shaped_ltups {ts : List (List D)} (h : ∀ t ∈ ts, ∀ d ∈ t, okPt d = true) : SeqAt.shaped (.list (tupsPy ts)) = true := by
  obtain ⟨h1, h2⟩ := lay_tups h
  unfold SeqAt.shaped
  rw [PyData.canLay0, PyData.depth, h1]
  simp
  omega
theorem ptPy_inj {d e : D} (h : isPt d = true) (k : isPt e = true) (q : ptPy d = ptPy e) : d = e := by
  cases d <;> first | (cases h; done) | skip
  all_goals cases e <;> first | (cases k; done) | skip
  all_goals first | (cases q; done) | (cases q; rfl)
theorem mapPt_inj : ∀ {xs ys : List D}, (∀ d ∈ xs, isPt d = true) → (∀ d ∈ ys, isPt d = true) → xs.map ptPy = ys.map ptPy → xs = ys
  | [], [], _, _, _ => rfl
  | [], _ :: _, _, _, h => by cases h
  | _ :: _, [], _, _, h => by cases h
  | x :: xs, y :: ys, h1, h2, h => by
    obtain ⟨a, b⟩ := List.cons.inj h
    rw [ptPy_inj (h1 x (List.mem_cons_self ..)) (h2 y (List.mem_cons_self ..)) a, mapPt_inj (fun d hd => h1 d (List.mem_cons_of_mem _ hd)) (fun d hd => h2 d (List.mem_cons_of_mem _ hd)) b]
theorem tupsPy_inj : ∀ {xs ys : List (List D)}, (∀ t ∈ xs, ∀ d ∈ t, isPt d = true) → (∀ t ∈ ys, ∀ d ∈ t, isPt d = true) → tupsPy xs = tupsPy ys → xs = ys
  | [], [], _, _, _ => rfl
  | [], _ :: _, _, _, h => by cases h
  | _ :: _, [], _, _, h => by cases h
  | x :: xs, y :: ys, h1, h2, h => by
    obtain ⟨a, b⟩ := List.cons.inj h
    rw [mapPt_inj (h1 x (List.mem_cons_self ..)) (h2 y (List.mem_cons_self ..)) (PyData.tuple.inj a), tupsPy_inj (fun d hd => h1 d (List.mem_cons_of_mem _ hd)) (fun d hd => h2 d (List.mem_cons_of_mem _ hd)) b]
/-- two lists of tuples -/
theorem eqD_ltups {S : Sto} {a b : Nat} {xs ys : List (List D)} (l1 : lstAt S a = some (xs.map D.tup)) (l2 : lstAt S b = some (ys.map D.tup)) (h1 : ∀ t ∈ xs, ∀ d ∈ t, isPt d = true) (h2 : ∀ t ∈ ys, ∀ d ∈ t, isPt d = true) (k1 : ∀ t ∈ xs, ∀ d ∈ t, okPt d = true) (k2 : ∀ t ∈ ys, ∀ d ∈ t, okPt d = true) :
    ∃ c, eqD S (.ref a) (.ref b) = some c ∧ (c = true ↔ xs = ys) := by
  refine ⟨_, eqD_rp rfl (.ref l1 (rps_tups h1)) (.ref l2 (rps_tups h2)) (shaped_ltups k1) (shaped_ltups k2), ?_⟩
  rw [Nb.eqv (.list (nbs_tups h1)) (.list (nbs_tups h2))]
  constructor
  · intro h
    exact tupsPy_inj h1 h2 (PyData.list.inj h)
  · rintro rfl
    rfl
end Eng

namespace Law
open PySem PySem.Spec PyProof.Rows L2 Eng
/-! ### the text by places -/
def topS (i : Nat) : Stmt := PySem.Challenge.pw_rootstamp_k47_refusals_of_growths.main.body.getD i (.Pass ⟨0, 0, 0, 0⟩)
abbrev s__law_weak : Stmt := topS 39
abbrev s_writing : Stmt := topS 31
abbrev s_counting : Stmt := topS 32
abbrev s__law_sure : Stmt := topS 38
abbrev s__law_stamper : Stmt := topS 40
abbrev s__law_count_by : Stmt := topS 41
abbrev s__law_half : Stmt := topS 42
abbrev s__law_many : Stmt := topS 43
abbrev s_is_whole : Stmt := topS 12
abbrev s_is_stamp : Stmt := topS 13
abbrev s_is_term : Stmt := topS 14
abbrev s_part_written : Stmt := topS 15
abbrev s_written : Stmt := topS 16
abbrev s__law_tops : Stmt := topS 44
abbrev s__law_rows_of : Stmt := topS 45
abbrev s_is_marks : Stmt := topS 24
abbrev s_half : Stmt := topS 10
abbrev s_joined : Stmt := topS 27
abbrev s_is_below : Stmt := topS 18
abbrev s_how_many : Stmt := topS 26
abbrev s_growth_terms : Stmt := topS 28
abbrev s__law_cell_at : Stmt := topS 34
abbrev s__law_first : Stmt := topS 53
abbrev s__law_is : Stmt := topS 51
abbrev s__law_no_count : Stmt := topS 49
abbrev s__law_no_elder : Stmt := topS 48
abbrev s__law_no_stamp : Stmt := topS 46
abbrev s__law_no_paper : Stmt := topS 50
abbrev s__law_no_head : Stmt := topS 47
abbrev s_Broken___init__ : Stmt := clsS (topS 8) 0
abbrev s_is_head : Stmt := topS 19
abbrev s_growth_answer : Stmt := topS 29
abbrev s__law_caught : Stmt := topS 52
abbrev s__law_text_by : Stmt := topS 36
abbrev s__law_stamp_by : Stmt := topS 37
abbrev s__law_other : Stmt := topS 54
abbrev s__law_refused : Stmt := topS 55
abbrev s_Row___init__ : Stmt := clsS (topS 22) 0
abbrev s_top_of : Stmt := topS 20
abbrev s_Row_first : Stmt := clsS (topS 22) 3
abbrev s_Row_mark_at : Stmt := clsS (topS 22) 5
abbrev s_Row_add : Stmt := clsS (topS 22) 1
abbrev s__law_near : Stmt := topS 56
abbrev s__law_whole : Stmt := topS 35
abbrev s__law_within : Stmt := topS 58
abbrev s_Row_size : Stmt := clsS (topS 22) 2
abbrev s_grown : Stmt := topS 21
abbrev s_Row_growth_paper : Stmt := clsS (topS 22) 7
abbrev s__law_asked : Stmt := topS 57
abbrev s__law_rows : Stmt := topS 59
abbrev s_law : Stmt := topS 60
abbrev p__law_weak__0 : Stmt := (defBody s__law_weak).getD 0 noneS
def W__law_weak__0 : NW := ⟨"_law_stamp", (("_law_weak" : Str) ++ (".<locals>." : Str)) ++ ("_law_stamp" : Str), defArgs p__law_weak__0, .stmts (defBody p__law_weak__0), defScope p__law_weak__0, ["_law_many_here"]⟩
abbrev p_writing__1 : Stmt := (defBody s_writing).getD 0 noneS
def W_writing__1 : NW := ⟨"<lambda>", (("writing" : Str) ++ (".<locals>." : Str)) ++ ("<lambda>" : Str), lamA p_writing__1, .expr (lamB p_writing__1), lamS p_writing__1, []⟩
abbrev p_counting__2 : Stmt := (defBody s_counting).getD 1 noneS
def W_counting__2 : NW := ⟨"number_for", (("counting" : Str) ++ (".<locals>." : Str)) ++ ("number_for" : Str), defArgs p_counting__2, .stmts (defBody p_counting__2), defScope p_counting__2, ["book"]⟩
abbrev p__law_sure__3 : Stmt := (defBody s__law_sure).getD 1 noneS
def W__law_sure__3 : NW := ⟨"_law_stamp", (("_law_sure" : Str) ++ (".<locals>." : Str)) ++ ("_law_stamp" : Str), defArgs p__law_sure__3, .stmts (defBody p__law_sure__3), defScope p__law_sure__3, ["_law_known", "_law_step"]⟩
/-! ### the mirrors -/
def xfT : XfT := [("Broken", "due"), ("Broken", "came")]
def isaG : List (Str × Str × Bool) := ("Broken", "Broken", true) :: ("Broken", "NoHead", false) :: ("Broken", "NoPaper", false) :: ("Broken", "NoPlace", false) :: ("Broken", "NoStamp", false) :: ("Broken", "StampError", true) :: ("NoHead", "Broken", false) :: ("NoHead", "NoHead", true) :: ("NoHead", "NoPaper", false) :: ("NoHead", "NoPlace", false) :: ("NoHead", "NoStamp", false) :: ("NoHead", "StampError", true) :: ("NoPaper", "Broken", false) :: ("NoPaper", "NoHead", false) :: ("NoPaper", "NoPaper", true) :: ("NoPaper", "NoPlace", false) :: ("NoPaper", "NoStamp", false) :: ("NoPaper", "StampError", true) :: ("NoPlace", "Broken", false) :: ("NoPlace", "NoHead", false) :: ("NoPlace", "NoPaper", false) :: ("NoPlace", "NoPlace", true) :: ("NoPlace", "NoStamp", false) :: ("NoPlace", "StampError", true) :: ("NoStamp", "Broken", false) :: ("NoStamp", "NoHead", false) :: ("NoStamp", "NoPaper", false) :: ("NoStamp", "NoPlace", false) :: ("NoStamp", "NoStamp", true) :: ("NoStamp", "StampError", true) :: ("NoTerm", "Broken", false) :: ("NoTerm", "NoHead", false) :: ("NoTerm", "NoPaper", false) :: ("NoTerm", "NoPlace", false) :: ("NoTerm", "NoStamp", false) :: ("NoTerm", "StampError", true) :: []
def isaB : List (Str × String × Bool) := [("Broken", "ValueError", true), ("NoHead", "ValueError", true), ("NoPaper", "ValueError", true), ("NoPlace", "ValueError", true), ("NoStamp", "ValueError", true), ("NoTerm", "ValueError", true)]
def isa : IsaT := isaOf isaG
def isaT : Str → String → Option Bool := isaTOf isaB
/-- _law_weak: _law_many_here 0, _law_stamp 1 -/
noncomputable def b__law_weak : Ms :=
    sDefRet 1 0 W__law_weak__0 [0]
noncomputable def m__law_weak : List D → Sto → R D := mDef 2 b__law_weak
/-- writing:  -/
noncomputable def b_writing : Ms :=
    retFn 1 W_writing__1 []
noncomputable def m_writing : List D → Sto → R D := mDef 0 b_writing
/-- counting: number_for 0, book 1 -/
noncomputable def b_counting : Ms :=
    sSeq (sAsg 1 (mDt))
    (sDefRet 0 2 W_counting__2 [1])
noncomputable def m_counting : List D → Sto → R D := mDef 2 b_counting
/-- _law_sure: _law_step 0, _law_stamp 1, _law_known 2 -/
noncomputable def b__law_sure : Ms :=
    sSeq (sAsg 2 (mDt))
    (sDefRet 1 3 W__law_sure__3 [2, 0])
noncomputable def m__law_sure : List D → Sto → R D := mDef 3 b__law_sure
/-- _law_stamper: _law_cell 0 -/
noncomputable def b__law_stamper : Ms :=
    sSeq (sIf (mTB (mBin fEq (mBin fMod (mVar 0) (mC (.int 5))) (mC (.int 0)))) (sRet (mCall0 m_writing)) (sSkip))
    (sSeq (sIf (mTB (mBin fEq (mBin fMod (mVar 0) (mC (.int 5))) (mC (.int 1)))) (sRet (mCall0 m_counting)) (sSkip))
    (sSeq (sIf (mTB (mBin fEq (mBin fMod (mVar 0) (mC (.int 5))) (mC (.int 2)))) (sRet (mCall m__law_sure (mCons (mBin fAdd (mC (.int 1)) (mBin fMod (mBin fDiv (mVar 0) (mC (.int 5))) (mC (.int 9)))) (mNil)))) (sSkip))
    (sRet (mCall m__law_weak (mCons (mBin fAdd (mC (.int 1)) (mBin fMod (mBin fDiv (mVar 0) (mC (.int 5))) (mC (.int 9)))) (mNil))))))
noncomputable def m__law_stamper : List D → Sto → R D := mDef 1 b__law_stamper
/-- _law_count_by: _law_cell 0 -/
noncomputable def b__law_count_by : Ms :=
    sSeq (sIf (mTB (mBin fEq (mBin fMod (mVar 0) (mC (.int 3))) (mC (.int 0)))) (sRet (mBin fMod (mBin fDiv (mVar 0) (mC (.int 3))) (mC (.int 41)))) (sSkip))
    (sSeq (sIf (mTB (mBin fEq (mBin fMod (mVar 0) (mC (.int 3))) (mC (.int 1)))) (sRet (mBin fSub (mBin fAdd (mBin fShl (mC (.int 1)) (mBin fAdd (mC (.int 1)) (mBin fMod (mBin fDiv (mVar 0) (mC (.int 3))) (mC (.int 59))))) (mBin fMod (mBin fDiv (mVar 0) (mC (.int 177))) (mC (.int 4)))) (mC (.int 1)))) (sSkip))
    (sRet (mBin fMod (mBin fDiv (mVar 0) (mC (.int 3))) (mBin fShl (mC (.int 1)) (mC (.int 60))))))
noncomputable def m__law_count_by : List D → Sto → R D := mDef 1 b__law_count_by
noncomputable def w1__law_half : Mb :=
    mTB (mBin fLt (mBin fMulA (mC (.int 2)) (mVar 1)) (mVar 0))
noncomputable def l2__law_half : Ms :=
    sAsg 1 (mBin fMulA (mC (.int 2)) (mVar 1))
/-- _law_half: _law_many_here 0, _law_cut 1 -/
noncomputable def b__law_half : Ms :=
    sSeq (sAsg 1 (mC (.int 1)))
    (sSeq (sWhile w1__law_half l2__law_half)
    (sRet (mVar 1)))
noncomputable def m__law_half : List D → Sto → R D := mDef 2 b__law_half
noncomputable def w1__law_many : Mb :=
    mTB (mChain fLt fLt (mC (.int 0)) (mVar 1) (mVar 0))
noncomputable def l2__law_many : Ms :=
    sSeq (sAsg 3 (mCall m__law_half (mCons (mVar 0) (mNil))))
    (sSeq (sAsg 2 (mBin fAdd (mVar 2) (mC (.int 1))))
    (sIf (mTB (mBin fGt (mVar 1) (mVar 3))) (sSeq (sAsg 0 (mBin fSub (mVar 0) (mVar 3)))
    (sAsg 1 (mBin fSub (mVar 1) (mVar 3)))) (sAsg 0 (mVar 3))))
/-- _law_many: _law_count 0, _law_elder 1, _law_found 2, _law_cut 3 -/
noncomputable def b__law_many : Ms :=
    sSeq (sAsg 2 (mCB fMin (mCons (mVar 0) (mCons (mC (.int 1)) mNil))))
    (sSeq (sWhile w1__law_many l2__law_many)
    (sRet (mVar 2)))
noncomputable def m__law_many : List D → Sto → R D := mDef 4 b__law_many
noncomputable def l1__law_weak__0 : Ms :=
    sIf (mTru (mCB fIsi (mCons (mVar 3) (mCons (mC (.ty "str")) mNil)))) (sAsg 2 (mBin fAdd (mBin fMulA (mC (.int 2)) (mVar 2)) (mCB fLen (mCons (mVar 3) mNil)))) (sAsg 2 (mBin fAdd (mBin fMulA (mC (.int 2)) (mVar 2)) (mVar 3)))
/-- _law_weak__0: _law_term 0, _law_many_here 1, _law_total 2, _law_part 3 -/
noncomputable def b__law_weak__0 : Ms :=
    sSeq (sAsg 2 (mCB fLen (mCons (mVar 0) mNil)))
    (sSeq (sFor (mIt (mVar 0)) (fName 3) l1__law_weak__0)
    (sRet (mBin fMod (mVar 2) (mVar 1))))
noncomputable def m__law_weak__0 : List D → Sto → R D := mDef 4 b__law_weak__0
/-- is_whole: thing 0 -/
noncomputable def b_is_whole : Ms :=
    sRet (mAndV (mCB fIsi (mCons (mVar 0) (mCons (mC (.ty "int")) mNil))) (mNotV (mCB fIsi (mCons (mVar 0) (mCons (mC (.ty "bool")) mNil)))))
noncomputable def m_is_whole : List D → Sto → R D := mDef 1 b_is_whole
/-- is_stamp: thing 0 -/
noncomputable def b_is_stamp : Ms :=
    sSeq (sIf (mTru (mCB fIsi (mCons (mVar 0) (mCons (mC (.ty "str")) mNil)))) (sRet (mC (.bl true))) (sSkip))
    (sRet (mAndV (mCall m_is_whole (mCons (mVar 0) (mNil))) (mChain fLe fLt (mC (.int 0)) (mVar 0) (mBin fPow (mC (.int 10)) (mC (.int 60))))))
noncomputable def m_is_stamp : List D → Sto → R D := mDef 1 b_is_stamp
noncomputable def l1_is_term : Ms :=
    sIf (mNot (mTru (mCall m_is_stamp (mCons (mVar 1) (mNil))))) (sRet (mC (.bl false))) (sSkip)
/-- is_term: thing 0, part 1 -/
noncomputable def b_is_term : Ms :=
    sSeq (sIf (mOr (mNot (mTru (mCB fIsi (mCons (mVar 0) (mCons (mC (.ty "tuple")) mNil))))) (mOr (mTB (mBin fLt (mCB fLen (mCons (mVar 0) mNil)) (mC (.int 1)))) (mTB (mBin fGt (mCB fLen (mCons (mVar 0) mNil)) (mC (.int 8)))))) (sRet (mC (.bl false))) (sSkip))
    (sSeq (sIf (mNot (mTru (mCB fIsi (mCons (mBin fItem (mVar 0) (mC (.int 0))) (mCons (mC (.ty "str")) mNil))))) (sRet (mC (.bl false))) (sSkip))
    (sSeq (sFor (mIt (mVar 0)) (fName 1) l1_is_term)
    (sRet (mC (.bl true)))))
noncomputable def m_is_term : List D → Sto → R D := mDef 2 b_is_term
/-- part_written: part 0 -/
noncomputable def b_part_written : Ms :=
    sSeq (sIf (mTru (mCB fIsi (mCons (mVar 0) (mCons (mC (.ty "str")) mNil)))) (sRet (mBin fAdd (mBin fAdd (mCB fStr (mCons (mCB fLen (mCons (mVar 0) mNil)) mNil)) (mC (.str ":"))) (mVar 0))) (sSkip))
    (sRet (mBin fAdd (mCB fStr (mCons (mVar 0) mNil)) (mC (.str ";"))))
noncomputable def m_part_written : List D → Sto → R D := mDef 1 b_part_written
noncomputable def e1_written : Mx :=
    mCall m_part_written (mCons (mVar 1) (mNil))
/-- written: term 0, part 1 -/
noncomputable def b_written : Ms :=
    sSeq (sIf (mNot (mTru (mCall m_is_term (mCons (mVar 0) (mNil))))) (sRaise (mK0 "NoTerm")) (sSkip))
    (sRet (mJoin (mC (.str "")) (mLc (mIt (mVar 0)) (fName 1) (mYes) e1_written [1])))
noncomputable def m_written : List D → Sto → R D := mDef 2 b_written
/-- writing__1: term 0 -/
noncomputable def b_writing__1 : Ms :=
    sRet (mCall m_written (mCons (mVar 0) (mNil)))
noncomputable def m_writing__1 : List D → Sto → R D := mDef 1 b_writing__1
/-- counting__2: term 0, book 1 -/
noncomputable def b_counting__2 : Ms :=
    sSeq (sIf (mNot (mTru (mCall m_is_term (mCons (mVar 0) (mNil))))) (sRaise (mK0 "NoTerm")) (sSkip))
    (sRet (mSetd (mVar 1) (mVar 0) (mCB fLen (mCons (mVar 1) mNil))))
noncomputable def m_counting__2 : List D → Sto → R D := mDef 2 b_counting__2
/-- _law_sure__3: _law_term 0, _law_known 1, _law_step 2 -/
noncomputable def b__law_sure__3 : Ms :=
    sRet (mSetd (mVar 1) (mVar 0) (mBin fAdd (mBin fMulA (mVar 2) (mCB fLen (mCons (mVar 1) mNil))) (mC (.int 5))))
noncomputable def m__law_sure__3 : List D → Sto → R D := mDef 3 b__law_sure__3
noncomputable def tabV : VTab := [(W__law_weak__0, m__law_weak__0), (W_writing__1, m_writing__1), (W_counting__2, m_counting__2), (W__law_sure__3, m__law_sure__3)]
/-- _law_tops: _law_stamper_here 0, _law_count 1, _law_elder 2, _law_marks 3, _law_cut 4, _law_young 5, _law_old 6 -/
noncomputable def b__law_tops (me : List D → Sto → R D) : Ms :=
    sSeq (sIf (mTB (mBin fEq (mVar 2) (mVar 1))) (sRet (mTup (mCons (mBin fItem (mVar 3) (mC (.int 0))) (mCons (mBin fItem (mVar 3) (mC (.int 0))) (mNil))))) (sSkip))
    (sSeq (sAsg 4 (mCall m__law_half (mCons (mVar 1) (mNil))))
    (sSeq (sIf (mTB (mBin fGt (mVar 2) (mVar 4))) (sSeq (sAsgT (mCall me (mCons (mVar 0) (mCons (mBin fSub (mVar 1) (mVar 4)) (mCons (mBin fSub (mVar 2) (mVar 4)) (mCons (mSl (mVar 3) (mO1 (mC (.int 1))) (mO0)) (mNil)))))) (fNames [5, 6]))
    (sRet (mTup (mCons (mCallV tabV (mVar 0) (mCons (mTup (mCons (mC (.str "joint")) (mCons (mBin fItem (mVar 3) (mC (.int 0))) (mCons (mVar 5) (mNil))))) (mNil))) (mCons (mCallV tabV (mVar 0) (mCons (mTup (mCons (mC (.str "joint")) (mCons (mBin fItem (mVar 3) (mC (.int 0))) (mCons (mVar 6) (mNil))))) (mNil))) (mNil)))))) (sSkip))
    (sSeq (sAsgT (mCall me (mCons (mVar 0) (mCons (mVar 4) (mCons (mVar 2) (mCons (mSl (mVar 3) (mO0) (mO1 (mUn fNeg (mC (.int 1))))) (mNil)))))) (fNames [5, 6]))
    (sRet (mTup (mCons (mCallV tabV (mVar 0) (mCons (mTup (mCons (mC (.str "joint")) (mCons (mVar 5) (mCons (mBin fItem (mVar 3) (mUn fNeg (mC (.int 1)))) (mNil))))) (mNil))) (mCons (mVar 6) (mNil))))))))
noncomputable def r__law_tops : Nat → List D → Sto → R D
  | 0 => fun _ _ => .stuck
  | n + 1 => mDef 7 (b__law_tops (r__law_tops n))
noncomputable def m__law_tops : List D → Sto → R D := r__law_tops 70
/-- _law_rows_of: _law_stamper_here 0, _law_count 1, _law_elder 2, _law_marks 3, _law_void 4, _law_tops_here 5 -/
noncomputable def b__law_rows_of : Ms :=
    sSeq (sAsg 4 (mCallV tabV (mVar 0) (mCons (mTup (mCons (mC (.str "void")) (mNil))) (mNil))))
    (sSeq (sAsg 5 (mTup (mCons (mVar 4) (mCons (mVar 4) (mNil)))))
    (sSeq (sIf (mTB (mBin fGt (mVar 2) (mC (.int 0)))) (sAsg 5 (mCall m__law_tops (mCons (mVar 0) (mCons (mVar 1) (mCons (mVar 2) (mCons (mVar 3) (mNil))))))) (sIf (mTB (mBin fGt (mVar 1) (mC (.int 0)))) (sAsg 5 (mTup (mCons (mBin fItem (mVar 3) (mC (.int 0))) (mCons (mVar 4) (mNil))))) (sSkip)))
    (sRet (mTup (mCons (mCallV tabV (mVar 0) (mCons (mTup (mCons (mC (.str "row")) (mCons (mVar 1) (mCons (mBin fItem (mVar 5) (mC (.int 0))) (mNil))))) (mNil))) (mCons (mCallV tabV (mVar 0) (mCons (mTup (mCons (mC (.str "row")) (mCons (mVar 2) (mCons (mBin fItem (mVar 5) (mC (.int 1))) (mNil))))) (mNil))) (mNil)))))))
noncomputable def m__law_rows_of : List D → Sto → R D := mDef 6 b__law_rows_of
noncomputable def l1_is_marks : Ms :=
    sIf (mNot (mTru (mCall m_is_stamp (mCons (mVar 2) (mNil))))) (sRet (mC (.bl false))) (sSkip)
/-- is_marks: thing 0, many 1, mark 2 -/
noncomputable def b_is_marks : Ms :=
    sSeq (sIf (mOr (mNot (mTru (mCB fIsi (mCons (mVar 0) (mCons (mC (.ty "tuple")) mNil))))) (mTB (mBin fNe (mCB fLen (mCons (mVar 0) mNil)) (mVar 1)))) (sRet (mC (.bl false))) (sSkip))
    (sSeq (sFor (mIt (mVar 0)) (fName 2) l1_is_marks)
    (sRet (mC (.bl true))))
noncomputable def m_is_marks : List D → Sto → R D := mDef 3 b_is_marks
/-- half: many 0 -/
noncomputable def b_half : Ms :=
    sRet (mBin fShl (mC (.int 1)) (mBin fSub (mUn fBits (mBin fSub (mVar 0) (mC (.int 1)))) (mC (.int 1))))
noncomputable def m_half : List D → Sto → R D := mDef 1 b_half
/-- joined: stamper 0, count 1, elder 2, marks 3, cut 4, joint 5, other 6, younger 7, older 8 -/
noncomputable def b_joined (me : List D → Sto → R D) : Ms :=
    sSeq (sIf (mTB (mBin fEq (mVar 2) (mVar 1))) (sRet (mTup (mCons (mTup (mCons (mLst (mNil)) (mCons (mBin fItem (mVar 3) (mC (.int 0))) (mNil)))) (mCons (mTup (mCons (mLst (mNil)) (mCons (mBin fItem (mVar 3) (mC (.int 0))) (mNil)))) (mNil))))) (sSkip))
    (sSeq (sAsg 4 (mCall m_half (mCons (mVar 1) (mNil))))
    (sSeq (sIf (mTB (mBin fLe (mVar 2) (mVar 4))) (sSeq (sAsgT (mCall me (mCons (mVar 0) (mCons (mVar 4) (mCons (mVar 2) (mCons (mSl (mVar 3) (mO0) (mO1 (mUn fNeg (mC (.int 1))))) (mNil)))))) (fNames [7, 8]))
    (sSeq (sAsg 5 (mTup (mCons (mC (.str "joint")) (mCons (mBin fItem (mVar 7) (mC (.int 1))) (mCons (mBin fItem (mVar 3) (mUn fNeg (mC (.int 1)))) (mNil))))))
    (sRet (mTup (mCons (mTup (mCons (mBin fAdd (mBin fItem (mVar 7) (mC (.int 0))) (mLst (mCons (mVar 5) (mNil)))) (mCons (mCallV tabV (mVar 0) (mCons (mVar 5) (mNil))) (mNil)))) (mCons (mVar 8) (mNil))))))) (sSkip))
    (sSeq (sAsgT (mCall me (mCons (mVar 0) (mCons (mBin fSub (mVar 1) (mVar 4)) (mCons (mBin fSub (mVar 2) (mVar 4)) (mCons (mSl (mVar 3) (mO1 (mC (.int 1))) (mO0)) (mNil)))))) (fNames [7, 8]))
    (sSeq (sAsg 5 (mTup (mCons (mC (.str "joint")) (mCons (mBin fItem (mVar 3) (mC (.int 0))) (mCons (mBin fItem (mVar 7) (mC (.int 1))) (mNil))))))
    (sSeq (sAsg 6 (mTup (mCons (mC (.str "joint")) (mCons (mBin fItem (mVar 3) (mC (.int 0))) (mCons (mBin fItem (mVar 8) (mC (.int 1))) (mNil))))))
    (sRet (mTup (mCons (mTup (mCons (mBin fAdd (mBin fItem (mVar 7) (mC (.int 0))) (mLst (mCons (mVar 5) (mNil)))) (mCons (mCallV tabV (mVar 0) (mCons (mVar 5) (mNil))) (mNil)))) (mCons (mTup (mCons (mBin fAdd (mBin fItem (mVar 8) (mC (.int 0))) (mLst (mCons (mVar 6) (mNil)))) (mCons (mCallV tabV (mVar 0) (mCons (mVar 6) (mNil))) (mNil)))) (mNil))))))))))
noncomputable def r_joined : Nat → List D → Sto → R D
  | 0 => fun _ _ => .stuck
  | n + 1 => mDef 9 (b_joined (r_joined n))
noncomputable def m_joined : List D → Sto → R D := r_joined 70
/-- is_below: thing 0, many 1 -/
noncomputable def b_is_below : Ms :=
    sRet (mAndV (mCall m_is_whole (mCons (mVar 0) (mNil))) (mChain fLe fLt (mC (.int 0)) (mVar 0) (mVar 1)))
noncomputable def m_is_below : List D → Sto → R D := mDef 2 b_is_below
noncomputable def w1_how_many : Mb :=
    mAnd (mTB (mBin fNe (mVar 1) (mC (.int 0)))) (mTB (mBin fNe (mVar 1) (mVar 0)))
noncomputable def l2_how_many : Ms :=
    sSeq (sAsg 3 (mCall m_half (mCons (mVar 0) (mNil))))
    (sSeq (sIf (mTB (mBin fLe (mVar 1) (mVar 3))) (sAsg 0 (mVar 3)) (sSeq (sAug 1 fSub (mVar 3))
    (sAug 0 fSub (mVar 3))))
    (sAug 2 (fI cT fun a b => .int (a + b)) (mC (.int 1))))
/-- how_many: count 0, elder 1, found 2, cut 3 -/
noncomputable def b_how_many : Ms :=
    sSeq (sIf (mTB (mBin fEq (mVar 0) (mC (.int 0)))) (sRet (mC (.int 0))) (sSkip))
    (sSeq (sAsg 2 (mC (.int 1)))
    (sSeq (sWhile w1_how_many l2_how_many)
    (sRet (mVar 2))))
noncomputable def m_how_many : List D → Sto → R D := mDef 4 b_how_many
/-- growth_terms: stamper 0, count 1, elder 2, marks 3, bare 4, younger 5, older 6 -/
noncomputable def b_growth_terms : Ms :=
    sSeq (sIf (mOr (mNot (mTru (mCall m_is_below (mCons (mVar 1) (mCons (mBin fShl (mC (.int 1)) (mC (.int 60))) (mNil)))))) (mNot (mTru (mCall m_is_below (mCons (mVar 2) (mCons (mBin fAdd (mVar 1) (mC (.int 1))) (mNil))))))) (sRaise (mK0 "NoPlace")) (sSkip))
    (sSeq (sIf (mNot (mTru (mCall m_is_marks (mCons (mVar 3) (mCons (mCall m_how_many (mCons (mVar 1) (mCons (mVar 2) (mNil)))) (mNil)))))) (sRaise (mK0 "NoPaper")) (sSkip))
    (sSeq (sIf (mTB (mBin fGt (mVar 2) (mC (.int 0)))) (sSeq (sAsgT (mCall m_joined (mCons (mVar 0) (mCons (mVar 1) (mCons (mVar 2) (mCons (mVar 3) (mNil)))))) (fNames [5, 6]))
    (sRet (mTup (mCons (mBin fAdd (mBin fItem (mVar 5) (mC (.int 0))) (mLst (mCons (mTup (mCons (mC (.str "row")) (mCons (mVar 1) (mCons (mBin fItem (mVar 5) (mC (.int 1))) (mNil))))) (mNil)))) (mCons (mBin fAdd (mBin fItem (mVar 6) (mC (.int 0))) (mLst (mCons (mTup (mCons (mC (.str "row")) (mCons (mVar 2) (mCons (mBin fItem (mVar 6) (mC (.int 1))) (mNil))))) (mNil)))) (mNil)))))) (sSkip))
    (sSeq (sAsg 4 (mLst (mCons (mTup (mCons (mC (.str "void")) (mNil))) (mCons (mTup (mCons (mC (.str "row")) (mCons (mC (.int 0)) (mCons (mCallV tabV (mVar 0) (mCons (mTup (mCons (mC (.str "void")) (mNil))) (mNil))) (mNil))))) (mNil)))))
    (sSeq (sIf (mTB (mBin fEq (mVar 1) (mC (.int 0)))) (sRet (mTup (mCons (mCB fList (mCons (mVar 4) mNil)) (mCons (mVar 4) (mNil))))) (sSkip))
    (sRet (mTup (mCons (mLst (mCons (mTup (mCons (mC (.str "row")) (mCons (mVar 1) (mCons (mBin fItem (mVar 3) (mC (.int 0))) (mNil))))) (mNil))) (mCons (mVar 4) (mNil)))))))))
noncomputable def m_growth_terms : List D → Sto → R D := mDef 7 b_growth_terms
/-- _law_cell_at: _law_script 0, _law_k 1 -/
noncomputable def b__law_cell_at : Ms :=
    sSeq (sIf (mTB (mBin fLt (mVar 1) (mCB fLen (mCons (mVar 0) mNil)))) (sRet (mBin fItem (mVar 0) (mVar 1))) (sSkip))
    (sRet (mC (.int 0)))
noncomputable def m__law_cell_at : List D → Sto → R D := mDef 2 b__law_cell_at
noncomputable def l1__law_first : Ms :=
    sIf (mTru (mBin fItem (mVar 0) (mVar 1))) (sRet (mVar 1)) (sSkip)
/-- _law_first: _law_flags 0, _law_k 1 -/
noncomputable def b__law_first : Ms :=
    sSeq (sFor (mRange1 (mCB fLen (mCons (mVar 0) mNil))) (fName 1) l1__law_first)
    (sRet (mUn fNeg (mC (.int 1))))
noncomputable def m__law_first : List D → Sto → R D := mDef 2 b__law_first
noncomputable def e1__law_is : Mx :=
    mOrV (mBin fEq (mVar 3) (mVar 1)) (mBin fEq (mVar 3) (mC (.int 5)))
/-- _law_is: _law_caught_here 0, _law_number 1, _law_kinds 2, _law_k 3 -/
noncomputable def b__law_is : Ms :=
    sSeq (sIf (mTB (mBin fLt (mVar 1) (mC (.int 0)))) (sRet (mBin fIs (mVar 0) (mC .non))) (sSkip))
    (sSeq (sAsg 2 (mLst (mCons (mCB (fIsY isa isaT) (mCons (mVar 0) (mCons (mC (.gl "NoHead")) mNil))) (mCons (mCB (fIsY isa isaT) (mCons (mVar 0) (mCons (mC (.gl "NoPlace")) mNil))) (mCons (mCB (fIsY isa isaT) (mCons (mVar 0) (mCons (mC (.gl "NoPaper")) mNil))) (mNil))))))
    (sSeq (sAsg 2 (mBin fAdd (mVar 2) (mLst (mCons (mCB (fIsY isa isaT) (mCons (mVar 0) (mCons (mC (.gl "Broken")) mNil))) (mCons (mCB (fIsY isa isaT) (mCons (mVar 0) (mCons (mC (.gl "NoStamp")) mNil))) (mCons (mCB (fIsY isa isaT) (mCons (mVar 0) (mCons (mC (.ty "ValueError")) mNil))) (mNil)))))))
    (sRet (mBin fEq (mVar 2) (mLc (mRange1 (mC (.int 6))) (fName 3) (mYes) e1__law_is [3])))))
noncomputable def m__law_is : List D → Sto → R D := mDef 4 b__law_is
/-- _law_no_count: _law_cell 0, _law_count 1, _law_some 2 -/
noncomputable def b__law_no_count : Ms :=
    sSeq (sAsg 2 (mLst (mCons (mC .non) (mCons (mC (.bl true)) (mCons (mC (.bl false)) (mCons (mCB fStr (mCons (mVar 1) mNil)) (mCons (mBin fSub (mUn fNeg (mC (.int 1))) (mVar 1)) (mCons (mBin fShl (mC (.int 1)) (mC (.int 60))) (mCons (mBin fAdd (mBin fShl (mC (.int 1)) (mC (.int 60))) (mVar 1)) (mCons (mTup (mCons (mVar 1) (mNil))) (mCons (mLst (mCons (mVar 1) (mNil))) (mNil))))))))))))
    (sRet (mBin fItem (mVar 2) (mBin fMod (mVar 0) (mC (.int 9)))))
noncomputable def m__law_no_count : List D → Sto → R D := mDef 3 b__law_no_count
/-- _law_no_elder: _law_cell 0, _law_count 1, _law_number 2, _law_some 3 -/
noncomputable def b__law_no_elder : Ms :=
    sSeq (sAsg 2 (mBin fMod (mBin fDiv (mVar 0) (mC (.int 9))) (mBin fPow (mC (.int 10)) (mC (.int 30)))))
    (sSeq (sAsg 3 (mLst (mCons (mC .non) (mCons (mC (.bl true)) (mCons (mC (.bl false)) (mCons (mCB fStr (mCons (mBin fMod (mVar 2) (mBin fAdd (mVar 1) (mC (.int 1)))) mNil)) (mCons (mBin fSub (mUn fNeg (mC (.int 1))) (mVar 2)) (mCons (mBin fAdd (mVar 1) (mC (.int 1))) (mCons (mBin fAdd (mBin fAdd (mVar 1) (mC (.int 2))) (mVar 2)) (mCons (mTup (mCons (mVar 1) (mNil))) (mCons (mLst (mCons (mC (.int 0)) (mNil))) (mNil))))))))))))
    (sRet (mBin fItem (mVar 3) (mBin fMod (mVar 0) (mC (.int 9))))))
noncomputable def m__law_no_elder : List D → Sto → R D := mDef 4 b__law_no_elder
/-- _law_no_stamp: _law_cell 0, _law_number 1, _law_some 2 -/
noncomputable def b__law_no_stamp : Ms :=
    sSeq (sAsg 1 (mBin fMod (mBin fDiv (mVar 0) (mC (.int 9))) (mBin fPow (mC (.int 10)) (mC (.int 30)))))
    (sSeq (sAsg 2 (mLst (mCons (mC .non) (mCons (mC (.bl true)) (mCons (mC (.bl false)) (mCons (mBin fSub (mUn fNeg (mC (.int 1))) (mVar 1)) (mCons (mBin fAdd (mBin fPow (mC (.int 10)) (mC (.int 60))) (mVar 1)) (mCons (mTup (mCons (mVar 1) (mNil))) (mCons (mLst (mCons (mVar 1) (mNil))) (mCons (mDk) (mCons (mTup (mCons (mC (.str "a")) (mNil))) (mNil))))))))))))
    (sRet (mBin fItem (mVar 2) (mBin fMod (mVar 0) (mC (.int 9))))))
noncomputable def m__law_no_stamp : List D → Sto → R D := mDef 3 b__law_no_stamp
/-- _law_no_paper: _law_cell 0, _law_marks 1, _law_spot 2, _law_thing 3, _law_some 4 -/
noncomputable def b__law_no_paper : Ms :=
    sSeq (sAsg 2 (mBin fMod (mBin fDiv (mVar 0) (mC (.int 5))) (mCB fMax (mCons (mC (.int 1)) (mCons (mCB fLen (mCons (mVar 1) mNil)) mNil)))))
    (sSeq (sAsg 3 (mCall m__law_no_stamp (mCons (mBin fDiv (mVar 0) (mC (.int 300))) (mNil))))
    (sSeq (sAsg 4 (mLst (mCons (mC .non) (mCons (mCB fList (mCons (mVar 1) mNil)) (mCons (mBin fAdd (mVar 1) (mTup (mCons (mC (.str "a")) (mNil)))) (mCons (mBin fAdd (mVar 1) (mTup (mCons (mVar 3) (mNil)))) (mNil)))))))
    (sSeq (sIf (mOr (mTB (mBin fLt (mBin fMod (mVar 0) (mC (.int 5))) (mC (.int 4)))) (mTB (mBin fEq (mCB fLen (mCons (mVar 1) mNil)) (mC (.int 0))))) (sRet (mBin fItem (mVar 4) (mBin fMod (mBin fMod (mVar 0) (mC (.int 5))) (mC (.int 4))))) (sSkip))
    (sSeq (sIf (mTB (mBin fEq (mBin fMod (mBin fDiv (mBin fDiv (mVar 0) (mC (.int 5))) (mC (.int 60))) (mC (.int 2))) (mC (.int 0)))) (sRet (mBin fAdd (mSl (mVar 1) (mO0) (mO1 (mVar 2))) (mSl (mVar 1) (mO1 (mBin fAdd (mVar 2) (mC (.int 1)))) (mO0)))) (sSkip))
    (sRet (mBin fAdd (mBin fAdd (mSl (mVar 1) (mO0) (mO1 (mVar 2))) (mTup (mCons (mVar 3) (mNil)))) (mSl (mVar 1) (mO1 (mBin fAdd (mVar 2) (mC (.int 1)))) (mO0))))))))
noncomputable def m__law_no_paper : List D → Sto → R D := mDef 5 b__law_no_paper
/-- _law_no_head: _law_cell 0, _law_count 1, _law_mark 2, _law_some 3 -/
noncomputable def b__law_no_head : Ms :=
    sSeq (sAsg 3 (mLst (mCons (mC .non) (mCons (mTup (mCons (mVar 1) (mNil))) (mCons (mTup (mCons (mVar 1) (mCons (mVar 2) (mCons (mVar 2) (mNil))))) (mCons (mLst (mCons (mVar 1) (mCons (mVar 2) (mNil)))) (mCons (mTup (mCons (mC (.bl true)) (mCons (mVar 2) (mNil)))) (mCons (mTup (mCons (mBin fSub (mUn fNeg (mC (.int 1))) (mVar 1)) (mCons (mVar 2) (mNil)))) (mCons (mTup (mCons (mBin fShl (mC (.int 1)) (mC (.int 60))) (mCons (mVar 2) (mNil)))) (mNil))))))))))
    (sSeq (sAsg 3 (mBin fAdd (mVar 3) (mLst (mCons (mTup (mCons (mCB fStr (mCons (mVar 1) mNil)) (mCons (mVar 2) (mNil)))) (mCons (mTup (mCons (mVar 1) (mCons (mCall m__law_no_stamp (mCons (mBin fDiv (mVar 0) (mC (.int 10))) (mNil))) (mNil)))) (mCons (mVar 2) (mCons (mDk) (mNil))))))))
    (sRet (mBin fItem (mVar 3) (mBin fMod (mVar 0) (mC (.int 11))))))
noncomputable def m__law_no_head : List D → Sto → R D := mDef 4 b__law_no_head
/-- is_head: thing 0 -/
noncomputable def b_is_head : Ms :=
    sSeq (sIf (mOr (mNot (mTru (mCB fIsi (mCons (mVar 0) (mCons (mC (.ty "tuple")) mNil))))) (mTB (mBin fNe (mCB fLen (mCons (mVar 0) mNil)) (mC (.int 2))))) (sRet (mC (.bl false))) (sSkip))
    (sRet (mAndV (mCall m_is_below (mCons (mBin fItem (mVar 0) (mC (.int 0))) (mCons (mBin fShl (mC (.int 1)) (mC (.int 60))) (mNil)))) (mCall m_is_stamp (mCons (mBin fItem (mVar 0) (mC (.int 1))) (mNil)))))
noncomputable def m_is_head : List D → Sto → R D := mDef 1 b_is_head
/-- growth_answer: stamper 0, head 1, elder 2, marks 3, came 4, younger 5, older 6 -/
noncomputable def b_growth_answer : Ms :=
    sSeq (sIf (mNot (mTru (mCall m_is_head (mCons (mVar 1) (mNil))))) (sRaise (mK0 "NoHead")) (sSkip))
    (sSeq (sAsgT (mCall m_growth_terms (mCons (mVar 0) (mCons (mBin fItem (mVar 1) (mC (.int 0))) (mCons (mVar 2) (mCons (mVar 3) (mNil)))))) (fNames [5, 6]))
    (sSeq (sAsg 4 (mCallV tabV (mVar 0) (mCons (mBin fItem (mVar 5) (mUn fNeg (mC (.int 1)))) (mNil))))
    (sSeq (sIf (mTB (mBin fNe (mVar 4) (mBin fItem (mVar 1) (mC (.int 1))))) (sRaise (mKF "Broken" "due" "came" (mBin fItem (mVar 1) (mC (.int 1))) (mVar 4))) (sSkip))
    (sRet (mCallV tabV (mVar 0) (mCons (mBin fItem (mVar 6) (mUn fNeg (mC (.int 1)))) (mNil)))))))
noncomputable def m_growth_answer : List D → Sto → R D := mDef 7 b_growth_answer
/-- _law_caught: _law_what 0, _law_stamper_here 1, _law_top 2, _law_elder 3, _law_marks 4, _law_caught_here 5, e 6 -/
noncomputable def b__law_caught : Ms :=
    sSeq (sAsg 5 (mC .non))
    (sSeq (sTry isa (sIf (mTB (mBin fEq (mVar 0) (mC (.int 0)))) (sExpr (mCall m_growth_terms (mCons (mVar 1) (mCons (mVar 2) (mCons (mVar 3) (mCons (mVar 4) (mNil))))))) (sExpr (mCall m_growth_answer (mCons (mVar 1) (mCons (mVar 2) (mCons (mVar 3) (mCons (mVar 4) (mNil))))))))
    [("StampError", some 6, sAsg 5 (mVar 6))] (sSkip))
    (sRet (mVar 5)))
noncomputable def m__law_caught : List D → Sto → R D := mDef 7 b__law_caught
noncomputable def e1__law_text_by : Mx :=
    mBin fItem (mVar 1) (mBin fMod (mBin fAdd (mBin fDiv (mVar 0) (mC (.int 5))) (mBin fMulA (mVar 2) (mBin fMod (mBin fDiv (mVar 0) (mC (.int 470))) (mC (.int 7))))) (mC (.int 94)))
/-- _law_text_by: _law_cell 0, _law_some 1, _law_k 2 -/
noncomputable def b__law_text_by : Ms :=
    sSeq (sAsg 1 (mC (.str " !\"#$&'()*+,-./0123456789:;<=>?@ABCDEFGHIJKLMNOPQRSTUVWXYZ[\\]^_`")))
    (sSeq (sAsg 1 (mBin fAdd (mVar 1) (mC (.str "abcdefghijklmnopqrstuvwxyz{|}~"))))
    (sRet (mJoin (mC (.str "")) (mLc (mRange1 (mBin fMod (mVar 0) (mC (.int 5)))) (fName 2) (mYes) e1__law_text_by [2]))))
noncomputable def m__law_text_by : List D → Sto → R D := mDef 3 b__law_text_by
/-- _law_stamp_by: _law_cell 0 -/
noncomputable def b__law_stamp_by : Ms :=
    sSeq (sIf (mTB (mBin fEq (mBin fMod (mVar 0) (mC (.int 4))) (mC (.int 0)))) (sRet (mCall m__law_text_by (mCons (mBin fDiv (mVar 0) (mC (.int 4))) (mNil)))) (sSkip))
    (sSeq (sIf (mTB (mBin fEq (mBin fMod (mVar 0) (mC (.int 4))) (mC (.int 1)))) (sRet (mBin fMod (mBin fDiv (mVar 0) (mC (.int 4))) (mBin fPow (mC (.int 10)) (mC (.int 60))))) (sSkip))
    (sRet (mBin fMod (mBin fDiv (mVar 0) (mC (.int 4))) (mC (.int 7)))))
noncomputable def m__law_stamp_by : List D → Sto → R D := mDef 1 b__law_stamp_by
/-- _law_other: _law_cell 0, _law_mark 1 -/
noncomputable def b__law_other : Ms :=
    sSeq (sIf (mTB (mBin fGt (mBin fMod (mVar 0) (mC (.int 3))) (mC (.int 0)))) (sRet (mCall m__law_stamp_by (mCons (mBin fDiv (mVar 0) (mC (.int 3))) (mNil)))) (sSkip))
    (sSeq (sIf (mTru (mCB fIsi (mCons (mVar 1) (mCons (mC (.ty "str")) mNil)))) (sRet (mBin fAdd (mVar 1) (mC (.str "0")))) (sSkip))
    (sRet (mCB fStr (mCons (mVar 1) mNil))))
noncomputable def m__law_other : List D → Sto → R D := mDef 2 b__law_other
noncomputable def e1__law_refused : Mx :=
    mBin fEq (mBin fMod (mCall m__law_cell_at (mCons (mVar 1) (mCons (mVar 12) (mNil)))) (mC (.int 3))) (mC (.int 0))
noncomputable def e2__law_refused : Mx :=
    mBin fDiv (mCall m__law_cell_at (mCons (mVar 1) (mCons (mVar 12) (mNil)))) (mC (.int 3))
/-- _law_refused: _law_stamper_here 0, _law_script 1, _law_count 2, _law_elder 3, _law_marks 4, _law_mark 5, _law_wrong 6, _law_more 7, _law_top 8, _law_due 9, _law_head 10, _law_other_here 11, _law_k 12 -/
noncomputable def b__law_refused : Ms :=
    sSeq (sAsg 6 (mLc (mRange2 (mC (.int 4)) (mC (.int 8))) (fName 12) (mYes) e1__law_refused [12]))
    (sSeq (sAsg 7 (mLc (mRange2 (mC (.int 4)) (mC (.int 8))) (fName 12) (mYes) e2__law_refused [12]))
    (sSeq (sAsg 8 (mVar 2))
    (sSeq (sIf (mTru (mBin fItem (mVar 6) (mC (.int 0)))) (sAsg 8 (mCall m__law_no_count (mCons (mBin fItem (mVar 7) (mC (.int 0))) (mCons (mVar 2) (mNil))))) (sSkip))
    (sSeq (sIf (mTru (mBin fItem (mVar 6) (mC (.int 1)))) (sAsg 3 (mCall m__law_no_elder (mCons (mBin fItem (mVar 7) (mC (.int 1))) (mCons (mVar 2) (mNil))))) (sSkip))
    (sSeq (sIf (mTru (mBin fItem (mVar 6) (mC (.int 2)))) (sAsg 4 (mCall m__law_no_paper (mCons (mBin fItem (mVar 7) (mC (.int 2))) (mCons (mVar 4) (mNil))))) (sSkip))
    (sSeq (sAsg 9 (mCall m__law_first (mCons (mLst (mCons (mC (.bl false)) (mCons (mOrV (mBin fItem (mVar 6) (mC (.int 0))) (mBin fItem (mVar 6) (mC (.int 1)))) (mCons (mBin fItem (mVar 6) (mC (.int 2))) (mNil))))) (mNil))))
    (sSeq (sIf (mNot (mTru (mCall m__law_is (mCons (mCall m__law_caught (mCons (mC (.int 0)) (mCons (mVar 0) (mCons (mVar 8) (mCons (mVar 3) (mCons (mVar 4) (mNil))))))) (mCons (mVar 9) (mNil)))))) (sRet (mC (.bl false))) (sSkip))
    (sSeq (sAsg 10 (mTup (mCons (mVar 2) (mCons (mVar 5) (mNil)))))
    (sSeq (sIf (mTru (mBin fItem (mVar 6) (mC (.int 3)))) (sAsg 10 (mTup (mCons (mVar 2) (mCons (mCall m__law_other (mCons (mBin fItem (mVar 7) (mC (.int 3))) (mCons (mVar 5) (mNil)))) (mNil))))) (sSkip))
    (sSeq (sAsg 11 (mBin fNe (mBin fItem (mVar 10) (mC (.int 1))) (mVar 5)))
    (sSeq (sIf (mTru (mBin fItem (mVar 6) (mC (.int 0)))) (sAsg 10 (mCall m__law_no_head (mCons (mBin fItem (mVar 7) (mC (.int 0))) (mCons (mVar 2) (mCons (mVar 5) (mNil)))))) (sSkip))
    (sSeq (sAsg 9 (mCall m__law_first (mCons (mLst (mCons (mBin fItem (mVar 6) (mC (.int 0))) (mCons (mBin fItem (mVar 6) (mC (.int 1))) (mCons (mBin fItem (mVar 6) (mC (.int 2))) (mCons (mVar 11) (mNil)))))) (mNil))))
    (sRet (mCall m__law_is (mCons (mCall m__law_caught (mCons (mC (.int 1)) (mCons (mVar 0) (mCons (mVar 10) (mCons (mVar 3) (mCons (mVar 4) (mNil))))))) (mCons (mVar 9) (mNil)))))))))))))))))
noncomputable def m__law_refused : List D → Sto → R D := mDef 13 b__law_refused
/-- Row___init__: self 0, stamper 1 -/
noncomputable def b_Row___init__ : Ms :=
    sSeq (sFld ["Row"] (mVar 0) "stamper" (mVar 1))
    (sFld ["Row"] (mVar 0) "entries" (mLst (mNil)))
noncomputable def m_Row___init__ : List D → Sto → R D := mDef 2 b_Row___init__
/-- top_of: stamper 0, entries 1, many 2, cut 3, left 4, right 5 -/
noncomputable def b_top_of (me : List D → Sto → R D) : Ms :=
    sSeq (sAsg 2 (mCB fLen (mCons (mVar 1) mNil)))
    (sSeq (sIf (mTB (mBin fEq (mVar 2) (mC (.int 0)))) (sRet (mCallV tabV (mVar 0) (mCons (mTup (mCons (mC (.str "void")) (mNil))) (mNil)))) (sSkip))
    (sSeq (sIf (mTB (mBin fEq (mVar 2) (mC (.int 1)))) (sRet (mCallV tabV (mVar 0) (mCons (mTup (mCons (mC (.str "entry")) (mCons (mBin fItem (mVar 1) (mC (.int 0))) (mNil)))) (mNil)))) (sSkip))
    (sSeq (sAsg 3 (mCall m_half (mCons (mVar 2) (mNil))))
    (sSeq (sAsg 4 (mCall me (mCons (mVar 0) (mCons (mSl (mVar 1) (mO0) (mO1 (mVar 3))) (mNil)))))
    (sSeq (sAsg 5 (mCall me (mCons (mVar 0) (mCons (mSl (mVar 1) (mO1 (mVar 3)) (mO0)) (mNil)))))
    (sRet (mCallV tabV (mVar 0) (mCons (mTup (mCons (mC (.str "joint")) (mCons (mVar 4) (mCons (mVar 5) (mNil))))) (mNil)))))))))
noncomputable def r_top_of : Nat → List D → Sto → R D
  | 0 => fun _ _ => .stuck
  | n + 1 => mDef 6 (b_top_of (r_top_of n))
noncomputable def m_top_of : List D → Sto → R D := r_top_of 70
/-- Row_first: self 0, count 1 -/
noncomputable def b_Row_first : Ms :=
    sSeq (sIf (mNot (mTru (mCall m_is_below (mCons (mVar 1) (mCons (mBin fAdd (mCB fLen (mCons (mFld (mVar 0) "entries") mNil)) (mC (.int 1))) (mNil)))))) (sRaise (mK0 "NoPlace")) (sSkip))
    (sRet (mSl (mFld (mVar 0) "entries") (mO0) (mO1 (mVar 1))))
noncomputable def m_Row_first : List D → Sto → R D := mDef 2 b_Row_first
/-- Row_mark_at: self 0, count 1, top 2 -/
noncomputable def b_Row_mark_at : Ms :=
    sSeq (sAsg 2 (mCall m_top_of (mCons (mFld (mVar 0) "stamper") (mCons (mMeth [("Row", m_Row_first)] "first" (mVar 0) (mCons (mVar 1) (mNil))) (mNil)))))
    (sRet (mCallF tabV "stamper" (mVar 0) (mCons (mTup (mCons (mC (.str "row")) (mCons (mVar 1) (mCons (mVar 2) (mNil))))) (mNil))))
noncomputable def m_Row_mark_at : List D → Sto → R D := mDef 3 b_Row_mark_at
/-- Row_add: self 0, entry 1 -/
noncomputable def b_Row_add : Ms :=
    sSeq (sIf (mNot (mTru (mCall m_is_stamp (mCons (mVar 1) (mNil))))) (sRaise (mK0 "NoStamp")) (sSkip))
    (sSeq (sExpr (mBM ckL fAppend (mFld (mVar 0) "entries") (mCons (mVar 1) mNil)))
    (sRet (mBin fSub (mCB fLen (mCons (mFld (mVar 0) "entries") mNil)) (mC (.int 1)))))
noncomputable def m_Row_add : List D → Sto → R D := mDef 2 b_Row_add
/-- _law_near: _law_cell 0, _law_size 1 -/
noncomputable def b__law_near : Ms :=
    sSeq (sIf (mTB (mBin fGt (mBin fMod (mVar 0) (mC (.int 3))) (mC (.int 0)))) (sRet (mBin fSub (mBin fMod (mBin fDiv (mVar 0) (mC (.int 3))) (mBin fAdd (mVar 1) (mC (.int 3)))) (mC (.int 1)))) (sSkip))
    (sRet (mCall m__law_no_stamp (mCons (mBin fDiv (mVar 0) (mC (.int 3))) (mNil))))
noncomputable def m__law_near : List D → Sto → R D := mDef 2 b__law_near
/-- _law_whole: _law_found 0 -/
noncomputable def b__law_whole : Ms :=
    sRet (mAndV (mCB fIsi (mCons (mVar 0) (mCons (mC (.ty "int")) mNil))) (mNotV (mCB fIsi (mCons (mVar 0) (mCons (mC (.ty "bool")) mNil)))))
noncomputable def m__law_whole : List D → Sto → R D := mDef 1 b__law_whole
/-- _law_within: _law_thing 0, _law_many_here 1 -/
noncomputable def b__law_within : Ms :=
    sRet (mAndV (mCall m__law_whole (mCons (mVar 0) (mNil))) (mChain fLe fLt (mC (.int 0)) (mVar 0) (mVar 1)))
noncomputable def m__law_within : List D → Sto → R D := mDef 2 b__law_within
/-- Row_size: self 0 -/
noncomputable def b_Row_size : Ms :=
    sRet (mCB fLen (mCons (mFld (mVar 0) "entries") mNil))
noncomputable def m_Row_size : List D → Sto → R D := mDef 1 b_Row_size
/-- grown: stamper 0, entries 1, elder 2, many 3, cut 4, first 5 -/
noncomputable def b_grown (me : List D → Sto → R D) : Ms :=
    sSeq (sAsg 3 (mCB fLen (mCons (mVar 1) mNil)))
    (sSeq (sIf (mTB (mBin fEq (mVar 3) (mC (.int 0)))) (sRet (mLst (mNil))) (sSkip))
    (sSeq (sIf (mOr (mTB (mBin fEq (mVar 2) (mC (.int 0)))) (mTB (mBin fEq (mVar 2) (mVar 3)))) (sRet (mLst (mCons (mCall m_top_of (mCons (mVar 0) (mCons (mVar 1) (mNil)))) (mNil)))) (sSkip))
    (sSeq (sAsg 4 (mCall m_half (mCons (mVar 3) (mNil))))
    (sSeq (sIf (mTB (mBin fLe (mVar 2) (mVar 4))) (sRet (mBin fAdd (mCall me (mCons (mVar 0) (mCons (mSl (mVar 1) (mO0) (mO1 (mVar 4))) (mCons (mVar 2) (mNil))))) (mLst (mCons (mCall m_top_of (mCons (mVar 0) (mCons (mSl (mVar 1) (mO1 (mVar 4)) (mO0)) (mNil)))) (mNil))))) (sSkip))
    (sSeq (sAsg 5 (mCall m_top_of (mCons (mVar 0) (mCons (mSl (mVar 1) (mO0) (mO1 (mVar 4))) (mNil)))))
    (sRet (mBin fAdd (mLst (mCons (mVar 5) (mNil))) (mCall me (mCons (mVar 0) (mCons (mSl (mVar 1) (mO1 (mVar 4)) (mO0)) (mCons (mBin fSub (mVar 2) (mVar 4)) (mNil))))))))))))
noncomputable def r_grown : Nat → List D → Sto → R D
  | 0 => fun _ _ => .stuck
  | n + 1 => mDef 6 (b_grown (r_grown n))
noncomputable def m_grown : List D → Sto → R D := r_grown 70
/-- Row_growth_paper: self 0, count 1, elder 2, entries 3 -/
noncomputable def b_Row_growth_paper : Ms :=
    sSeq (sAsg 3 (mMeth [("Row", m_Row_first)] "first" (mVar 0) (mCons (mVar 1) (mNil))))
    (sSeq (sIf (mNot (mTru (mCall m_is_below (mCons (mVar 2) (mCons (mBin fAdd (mVar 1) (mC (.int 1))) (mNil)))))) (sRaise (mK0 "NoPlace")) (sSkip))
    (sRet (mCB fTuple (mCons (mCall m_grown (mCons (mFld (mVar 0) "stamper") (mCons (mVar 3) (mCons (mVar 2) (mNil))))) mNil))))
noncomputable def m_Row_growth_paper : List D → Sto → R D := mDef 4 b_Row_growth_paper
/-- _law_asked: _law_what 0, _law_row 1, _law_one 2, _law_other_here 3, _law_caught_here 4, e 5 -/
noncomputable def b__law_asked : Ms :=
    sSeq (sAsg 4 (mC .non))
    (sSeq (sTry isa (sIf (mTB (mBin fEq (mVar 0) (mC (.int 0)))) (sExpr (mMeth [("Row", m_Row_mark_at)] "mark_at" (mVar 1) (mCons (mVar 2) (mNil)))) (sExpr (mMeth [("Row", m_Row_growth_paper)] "growth_paper" (mVar 1) (mCons (mVar 2) (mCons (mVar 3) (mNil))))))
    [("StampError", some 5, sAsg 4 (mVar 5))] (sSkip))
    (sRet (mVar 4)))
noncomputable def m__law_asked : List D → Sto → R D := mDef 6 b__law_asked
noncomputable def l1__law_rows : Ms :=
    sExpr (mMeth [("Row", m_Row_add)] "add" (mVar 2) (mCons (mCall m__law_stamp_by (mCons (mBin fAdd (mCall m__law_cell_at (mCons (mVar 1) (mCons (mVar 4) (mNil)))) (mVar 4)) (mNil))) (mNil)))
noncomputable def l2__law_rows : Ms :=
    sSeq (sAsg 6 (mCall m__law_cell_at (mCons (mVar 1) (mCons (mVar 4) (mNil)))))
    (sSeq (sAsg 7 (mCall m__law_near (mCons (mCall m__law_cell_at (mCons (mVar 1) (mCons (mBin fAdd (mVar 4) (mC (.int 1))) (mNil)))) (mCons (mVar 3) (mNil)))))
    (sSeq (sAsg 8 (mCall m__law_near (mCons (mBin fDiv (mCall m__law_cell_at (mCons (mVar 1) (mCons (mBin fAdd (mVar 4) (mC (.int 2))) (mNil)))) (mC (.int 3))) (mCons (mVar 3) (mNil)))))
    (sSeq (sAsg 9 (mCall m__law_within (mCons (mVar 7) (mCons (mBin fAdd (mVar 3) (mC (.int 1))) (mNil)))))
    (sSeq (sIf (mTB (mBin fGt (mBin fMod (mVar 6) (mC (.int 3))) (mC (.int 0)))) (sAsg 9 (mAndV (mVar 9) (mCall m__law_within (mCons (mVar 8) (mCons (mBin fAdd (mVar 7) (mC (.int 1))) (mNil)))))) (sSkip))
    (sIf (mNot (mTru (mCall m__law_is (mCons (mCall m__law_asked (mCons (mBin fMod (mVar 6) (mC (.int 3))) (mCons (mVar 2) (mCons (mVar 7) (mCons (mVar 8) (mNil)))))) (mCons (mBin fItem (mLst (mCons (mC (.int 1)) (mCons (mUn fNeg (mC (.int 1))) (mNil)))) (mCB fInt (mCons (mVar 9) mNil))) (mNil)))))) (sRet (mC (.bl false))) (sSkip))))))
/-- _law_rows: _law_stamper_here 0, _law_script 1, _law_row 2, _law_size 3, _law_k 4, _law_mark 5, _law_cell 6, _law_one 7, _law_other_here 8, _law_good 9 -/
noncomputable def b__law_rows : Ms :=
    sSeq (sAsg 2 (mNew "Row" m_Row___init__ (mCons (mVar 0) (mNil))))
    (sSeq (sAsg 3 (mBin fMod (mCall m__law_cell_at (mCons (mVar 1) (mCons (mC (.int 3)) (mNil)))) (mC (.int 9))))
    (sSeq (sFor (mRange2 (mC (.int 8)) (mBin fAdd (mC (.int 8)) (mVar 3))) (fName 4) l1__law_rows)
    (sSeq (sAsg 5 (mMeth [("Row", m_Row_mark_at)] "mark_at" (mVar 2) (mCons (mVar 3) (mNil))))
    (sSeq (sFor (mRange2 (mC (.int 17)) (mBin fAdd (mC (.int 17)) (mCB fMin (mCons (mCB fLen (mCons (mVar 1) mNil)) (mCons (mC (.int 12)) mNil))))) (fName 4) l2__law_rows)
    (sRet (mAndV (mBin fEq (mMeth [("Row", m_Row_size)] "size" (mVar 2) (mNil)) (mVar 3)) (mBin fEq (mMeth [("Row", m_Row_mark_at)] "mark_at" (mVar 2) (mCons (mVar 3) (mNil))) (mVar 5))))))))
noncomputable def m__law_rows : List D → Sto → R D := mDef 10 b__law_rows
noncomputable def e1_law : Mx :=
    mCall m__law_stamp_by (mCons (mBin fAdd (mCall m__law_cell_at (mCons (mVar 0) (mCons (mBin fAdd (mC (.int 9)) (mVar 9)) (mNil)))) (mBin fMulA (mC (.int 5)) (mVar 9))) (mNil))
/-- law: _law_script 0, _law_stamper_here 1, _law_count 2, _law_elder 3, _law_many_here 4, _law_marks 5, _law_due 6, _law_void 7, _law_found 8, _law_k 9 -/
noncomputable def b_law : Ms :=
    sSeq (sAsg 1 (mCall m__law_stamper (mCons (mCall m__law_cell_at (mCons (mVar 0) (mCons (mC (.int 0)) (mNil)))) (mNil))))
    (sSeq (sAsg 2 (mCall m__law_count_by (mCons (mCall m__law_cell_at (mCons (mVar 0) (mCons (mC (.int 1)) (mNil)))) (mNil))))
    (sSeq (sAsg 3 (mBin fMod (mCall m__law_cell_at (mCons (mVar 0) (mCons (mC (.int 2)) (mNil)))) (mBin fAdd (mVar 2) (mC (.int 1)))))
    (sSeq (sAsg 4 (mCall m__law_many (mCons (mVar 2) (mCons (mVar 3) (mNil)))))
    (sSeq (sAsg 5 (mCB fTuple (mCons (mLc (mRange1 (mVar 4)) (fName 9) (mYes) e1_law [9]) mNil)))
    (sSeq (sAsg 6 (mCall m__law_rows_of (mCons (mVar 1) (mCons (mVar 2) (mCons (mVar 3) (mCons (mVar 5) (mNil)))))))
    (sSeq (sIf (mNot (mTru (mCall m__law_refused (mCons (mVar 1) (mCons (mVar 0) (mCons (mVar 2) (mCons (mVar 3) (mCons (mVar 5) (mCons (mBin fItem (mVar 6) (mC (.int 0))) (mNil)))))))))) (sRet (mC (.bl false))) (sSkip))
    (sSeq (sIf (mTB (mBin fNe (mCall m_growth_answer (mCons (mVar 1) (mCons (mTup (mCons (mVar 2) (mCons (mBin fItem (mVar 6) (mC (.int 0))) (mNil)))) (mCons (mVar 3) (mCons (mVar 5) (mNil)))))) (mBin fItem (mVar 6) (mC (.int 1))))) (sRet (mC (.bl false))) (sSkip))
    (sSeq (sAsg 7 (mLst (mCons (mTup (mCons (mC (.str "void")) (mNil))) (mCons (mTup (mCons (mC (.str "row")) (mCons (mC (.int 0)) (mCons (mCallV tabV (mVar 1) (mCons (mTup (mCons (mC (.str "void")) (mNil))) (mNil))) (mNil))))) (mNil)))))
    (sSeq (sAsg 8 (mCall m_growth_terms (mCons (mVar 1) (mCons (mC (.int 0)) (mCons (mC (.int 0)) (mCons (mTup (mNil)) (mNil)))))))
    (sSeq (sIf (mOr (mNot (mTru (mCB fIsi (mCons (mVar 8) (mCons (mC (.ty "tuple")) mNil))))) (mTB (mBin fNe (mVar 8) (mTup (mCons (mVar 7) (mCons (mVar 7) (mNil))))))) (sRet (mC (.bl false))) (sSkip))
    (sSeq (sExpr (mBM ckL fClear (mBin fItem (mVar 8) (mC (.int 0))) mNil))
    (sRet (mAndV (mBin fEq (mBin fItem (mVar 8) (mC (.int 1))) (mVar 7)) (mAndV (mBin fEq (mCall m_growth_terms (mCons (mVar 1) (mCons (mC (.int 0)) (mCons (mC (.int 0)) (mCons (mTup (mNil)) (mNil)))))) (mTup (mCons (mVar 7) (mCons (mVar 7) (mNil))))) (mCall m__law_rows (mCons (mVar 1) (mCons (mVar 0) (mNil))))))))))))))))))
noncomputable def m_law : List D → Sto → R D := mDef 10 b_law
/-! ### the mathematics -/
/-! terms -/
abbrev big : Int := 1000000000000000000000000000000000000000000000000000000000000
def simpleD : D → Prop
  | .non => True
  | .bl _ => True
  | .int _ => True
  | .str _ => True
  | _ => False
def stampB : D → Bool
  | .str _ => true
  | .int n => decide (0 ≤ n) && decide (n < big)
  | _ => false
def strB : D → Bool
  | .str _ => true
  | _ => false
theorem s_stamp {d : D} (h : simpleD d) (T : Sto) : m_is_stamp [d] T = .ok (.bl (stampB d)) T := by
  cases d with
  | non => simp [m_is_stamp, b_is_stamp, m_is_whole, b_is_whole, stampB]
  | bl b => simp [m_is_stamp, b_is_stamp, m_is_whole, b_is_whole, stampB]
  | int n =>
    by_cases h1 : 0 ≤ n <;> by_cases h2 : n < big <;> simp [m_is_stamp, b_is_stamp, m_is_whole, b_is_whole, stampB, h1, h2]
  | str z => simp [m_is_stamp, b_is_stamp, m_is_whole, b_is_whole, stampB]
  | _ => exact h.elim
def hdStr : List D → Bool
  | d :: _ => strB d
  | [] => false
def termB (ds : List D) : Bool := decide (1 ≤ ds.length) && decide (ds.length ≤ 8) && hdStr ds && ds.all stampB
theorem s_isstr {d : D} (h : simpleD d) (T : Sto) : ∃ t, tyD T d = some t ∧ kitB t "str" = some (strB d) := by
  cases d with
  | non => exact ⟨_, rfl, by simp [strB]⟩
  | bl b => exact ⟨_, rfl, by simp [strB]⟩
  | int n => exact ⟨_, rfl, by simp [strB]⟩
  | str z => exact ⟨_, rfl, by simp [strB]⟩
  | _ => exact h.elim
theorem s_term {ds : List D} (h : ∀ d ∈ ds, simpleD d) (T : Sto) : m_is_term [.tup ds] T = .ok (.bl (termB ds)) T := by
  by_cases h1 : 1 ≤ ds.length ∧ ds.length ≤ 8
  · obtain ⟨d0, dr, ed⟩ : ∃ d0 dr, ds = d0 :: dr := by
      cases ds with
      | nil => simp at h1
      | cons a b => exact ⟨a, b, rfl⟩
    obtain ⟨t, e1, e2⟩ := s_isstr (h d0 (by rw [ed]; exact List.mem_cons_self ..)) T
    have a1 : ¬ (ds.length : Int) < 1 := by omega
    have a2 : ¬ (8 : Int) < (ds.length : Int) := by omega
    have a3 : atI ds 0 = some d0 := by
      rw [atI_at (by decide) (by omega), ed]
      rfl
    have hh : hdStr ds = strB d0 := by rw [ed]; rfl
    cases hs : strB d0 with
    | false =>
      rw [hs] at e2
      have ht : termB ds = false := by simp [termB, hh, hs]
      rw [ht]
      simp [m_is_term, b_is_term, a1, a2, a3, e1, e2]
    | true =>
      rw [hs] at e2
      have lp := for_inv' (it := itT ds) (f := fName 1) (b := l1_is_term) (fun i ρ S => S = T ∧ (∃ o, ρ = [some (.tup ds), o]) ∧ ∀ (j : Nat) (d : D), j < i → ds[j]? = some d → stampB d = true) (fun r => r = .fl (.rt (.bl false)) T ∧ ds.all stampB = false)
        (fun i ρ S hi ⟨q1, ⟨o, q2⟩, q3⟩ => by
          subst q1 q2
          have hi' : i < ds.length := hi
          have hd : ds[i]? = some ds[i] := List.getElem?_eq_getElem hi'
          have st := s_stamp (h ds[i] (List.getElem_mem _)) S
          refine ⟨ds[i], _, hd, rfl, ?_⟩
          by_cases hst : stampB ds[i] = true
          · refine .inl ⟨[some (.tup ds), some ds[i]], S, by simp [l1_is_term, st, hst], rfl, ⟨_, rfl⟩, fun j d hj hjd => ?_⟩
            by_cases e : j = i
            · subst e
              rw [hd] at hjd
              cases hjd
              exact hst
            · exact q3 j d (by omega) hjd
          · have hst' : stampB ds[i] = false := by simpa using hst
            have eb : l1_is_term [some (.tup ds), some ds[i]] S = .fl (.rt (.bl false)) S := by simp [l1_is_term, st, hst']
            refine .inr ⟨.inl ⟨_, _, eb⟩, eb, ?_⟩
            rw [List.all_eq_false]
            exact ⟨ds[i], List.getElem_mem _, by simp [hst']⟩)
        (fun _ _ _ => rfl) (ρ := [some (.tup ds), none]) (S := T) ⟨rfl, ⟨_, rfl⟩, fun j d hj => by omega⟩
      rcases lp with ⟨ρ', S', e3, rfl, ⟨o, rfl⟩, e4⟩ | ⟨_, e3, e4⟩
      · have hall : ds.all stampB = true := by
          rw [List.all_eq_true]
          intro d hd
          obtain ⟨j, hj, rfl⟩ := List.mem_iff_getElem.mp hd
          exact e4 j _ hj (List.getElem?_eq_getElem hj)
        have ht : termB ds = true := by simp [termB, h1, hh, hs, hall]
        rw [ht]
        simp [m_is_term, b_is_term, a1, a2, a3, e1, e2, e3]
      · have ht : termB ds = false := by simp [termB, e4]
        rw [ht]
        simp [m_is_term, b_is_term, a1, a2, a3, e1, e2, e3]
  · have ht : termB ds = false := by
      unfold termB
      by_cases h2 : 1 ≤ ds.length
      · have : ¬ ds.length ≤ 8 := fun h3 => h1 ⟨h2, h3⟩
        simp [this]
      · simp [h2]
    rw [ht]
    by_cases h2 : (ds.length : Int) < 1
    · simp [m_is_term, b_is_term, h2]
    · have h3 : (8 : Int) < (ds.length : Int) := by omega
      simp [m_is_term, b_is_term, h2, h3]
/-! what is written -/
def pw : D → Str
  | .int n => num n ++ ";"
  | .str z => num z.length ++ ":" ++ z
  | _ => ""
/-- a part: a whole number, a text of plain signs -/
def Sz (b : Nat) (d : D) : Prop := (∃ n, d = .int n ∧ 0 ≤ n ∧ n < big) ∨ ∃ z : Str, d = .str z ∧ z.length ≤ b ∧ ∀ c ∈ z.cps.toList, c < 128
abbrev Pt (d : D) : Prop := Sz 100000 d
theorem Sz.up {b k : Nat} {d : D} (h : Sz b d) (hb : b ≤ k) : Sz k d := by
  rcases h with h | ⟨z, h1, h2, h3⟩
  · exact .inl h
  · exact .inr ⟨z, h1, by omega, h3⟩
theorem Sz.pt {b : Nat} {d : D} (h : Sz b d) : isPt d = true := by
  rcases h with ⟨n, rfl, _⟩ | ⟨z, rfl, _⟩ <;> rfl
theorem Sz.ok {b : Nat} {d : D} (h : Sz b d) : okPt d = true := by
  rcases h with ⟨n, rfl, _⟩ | ⟨z, rfl, _, hc⟩
  · rfl
  · show PyData.strOk z = true
    unfold PyData.strOk
    rw [Array.all_eq_true']
    intro c h1
    have := hc c (by simpa using h1)
    simp
    omega
theorem len_num {n : Int} (h0 : 0 ≤ n) (h1 : n < big) : (num n).length ≤ 61 := by
  have hb : big = ((10 ^ 60 : Nat) : Int) := by decide +kernel
  have h2 : n.natAbs < 10 ^ 60 := by
    rw [hb] at h1
    omega
  exact num_len (by decide) h2
theorem app_assoc (a b c : Str) : a ++ b ++ c = a ++ (b ++ c) := by
  cases a
  cases b
  cases c
  show (⟨_⟩ : Str) = ⟨_⟩
  congr 1
  exact Array.append_assoc ..
theorem emp_app (a : Str) : ("" : Str) ++ a = a := by
  cases a
  show (⟨_⟩ : Str) = ⟨_⟩
  congr 1
  exact Array.empty_append
theorem joinE_cons (x : Str) (r : List Str) : Txt.join "" (x :: r) = x ++ Txt.join "" r := by
  show Builtin.Str.glued _ _ = x ++ Builtin.Str.glued _ _
  rw [StrLaws.glued_eq_join, StrLaws.glued_eq_join]
  exact PyProof.Rows.join_nil_cons x r
def wr (ds : List D) : Str := Txt.join "" (ds.map pw)
theorem log_big {n : Int} (h0 : 0 ≤ n) (h1 : n < big) : n.natAbs.log2 < 1920 := by
  have e : (2 : Nat) ^ 200 = 1606938044258990275541962092341162602522202993782792835301376 := by decide +kernel
  have h2 : n.natAbs < 2 ^ 200 := by
    rw [e]
    have : n < 1000000000000000000000000000000000000000000000000000000000000 := h1
    omega
  have := log_lt h2 (by decide)
  omega
theorem len_num7 {n : Nat} (h : n ≤ 100000) : (num (n : Int)).length ≤ 7 := num_len (k := 6) (by decide) (by omega)
theorem pw_len {b : Nat} {d : D} (h : Sz b d) (h1 : 61 ≤ b) (h2 : b ≤ 100000) : (pw d).length ≤ b + 10 := by
  rcases h with ⟨n, rfl, h0, hn⟩ | ⟨z, rfl, h, _⟩
  · have := len_num h0 hn
    show (num n ++ ";").length ≤ _
    rw [Str.length_append]
    have : (";" : Str).length = 1 := rfl
    omega
  · have := len_num7 (n := z.length) (by omega)
    show (num z.length ++ ":" ++ z).length ≤ _
    rw [Str.length_append, Str.length_append]
    have : (":" : Str).length = 1 := rfl
    omega
theorem r_pw {d : D} (h : Pt d) (T : Sto) : m_part_written [d] T = .ok (.str (pw d)) T := by
  rcases h with ⟨n, rfl, h0, h1⟩ | ⟨z, rfl, h, _⟩
  · have := len_num h0 h1
    have hl := log_big h0 h1
    have e : (num n).length + (";" : Str).length ≤ 16777216 := by
      have : (";" : Str).length = 1 := rfl
      omega
    simp [m_part_written, b_part_written, hl, e, pw]
  · have hz : (z.length : Int) < big := by
      have : (100000 : Int) < big := by decide
      omega
    have := len_num (n := (z.length : Int)) (by omega) hz
    have hl := log_big (n := (z.length : Int)) (by omega) hz
    have e2 : (":" : Str).length = 1 := rfl
    have e : (num z.length).length + (":" : Str).length ≤ 16777216 := by omega
    have e3 : (num z.length ++ (":" : Str)).length + z.length ≤ 16777216 := by
      rw [Str.length_append]
      omega
    have hz2 : z.length ≤ 16777216 := by omega
    simp at hl
    simp [m_part_written, b_part_written, hl, e, e3, pw, hz2]
theorem pt_simple {d : D} (h : Pt d) : simpleD d ∧ stampB d = true := by
  rcases h with ⟨n, rfl, h0, h1⟩ | ⟨z, rfl, h, _⟩
  · exact ⟨True.intro, by simp [stampB, h0, h1]⟩
  · exact ⟨True.intro, rfl⟩
/-! a good term: one to eight parts, the first a text -/
def Gt (ds : List D) : Prop := 1 ≤ ds.length ∧ ds.length ≤ 8 ∧ hdStr ds = true ∧ ∀ d ∈ ds, Pt d
theorem Gt.pt {t : List D} (h : Gt t) : ∀ d ∈ t, isPt d = true := fun d hd => (h.2.2.2 d hd).pt
theorem tm_is {ds : List D} (h : Gt ds) (T : Sto) : m_is_term [.tup ds] T = .ok (.bl true) T := by
  obtain ⟨h1, h2, h3, h4⟩ := h
  rw [s_term fun d hd => (pt_simple (h4 d hd)).1]
  have : ds.all stampB = true := by
    rw [List.all_eq_true]
    exact fun d hd => (pt_simple (h4 d hd)).2
  simp [termB, h1, h2, h3, this]
theorem r_written {ds : List D} (h : Gt ds) (T : Sto) : ∃ G, m_written [.tup ds] T = .ok (.str (wr ds)) (T ++ G) := by
  obtain ⟨U, e1, i1⟩ := lc_inv (it := itT ds) (f := fName 1) (mt := mYes) (m := e1_written) (ρ := [some (.tup ds), none]) (n := T.length) (fun i S => S = T ++ [.lst ((ds.take i).map fun d => .str (pw d))])
    (fun i S hi q => by
      subst q
      have hi' : i < ds.length := hi
      have hd : ds[i]? = some ds[i] := List.getElem?_eq_getElem hi'
      have e2 := r_pw (h.2.2.2 ds[i] (List.getElem_mem _)) (T ++ [.lst ((ds.take i).map fun d => .str (pw d))])
      refine ⟨ds[i], _, hd, rfl, .inr ⟨T ++ [.lst ((ds.take i).map fun d => .str (pw d))], .str (pw ds[i]), T ++ [.lst ((ds.take i).map fun d => .str (pw d))], (ds.take i).map fun d => .str (pw d), rfl, ?_, by simp, by have := h.2.1; simp; omega, ?_⟩⟩
      · show m_part_written [ds[i]] _ = _
        exact e2
      · rw [app_set0, List.take_add_one, hd, List.map_append]
        rfl)
    (fun _ _ => rfl) (S := T ++ [.lst []]) (by simp)
  subst i1
  have ht : ds.take (itT ds).cnt = ds := List.take_length
  rw [ht] at e1
  have hm : (ds.map fun d => D.str (pw d)) = (ds.map pw).map D.str := by simp
  have hsum : ((ds.map pw).map (·.length)).sum ≤ 100010 * ds.length := by
    have h4 := h.2.2.2
    clear e1 hm ht h
    induction ds with
    | nil => simp
    | cons d r ih =>
      have := pw_len (h4 d (List.mem_cons_self ..)) (by decide) (Nat.le_refl _)
      have := ih fun x hx => h4 x (List.mem_cons_of_mem _ hx)
      simp only [List.map_cons, List.sum_cons, List.length_cons]
      omega
  have h8 := h.2.1
  have hj : joinD "" (.ref T.length) (T ++ [.lst ((ds.map pw).map D.str)]) = some (.str (wr ds), T ++ [.lst ((ds.map pw).map D.str)]) := joinD_of (ds := (ds.map pw).map D.str) (by simp) (strsD_map _) (by
    rw [show ("" : Str).length = 0 from rfl]
    omega)
  rw [hm] at e1
  have e3 : mLc (mIt (mVar 0)) (fName 1) mYes e1_written [1] [some (.tup ds), none] T = .ok (.ref T.length) (T ++ [.lst ((ds.map pw).map D.str)]) := by
    unfold mLc
    simp only [ev_it, ev_var, getV_zero, R.bind_ok]
    exact e1
  generalize hL : (ds.map pw).map D.str = L at *
  exact ⟨[.lst L], by simp [m_written, b_written, tm_is h, e3, hj]⟩
theorem wr_nil : wr [] = "" := rfl
theorem wr_cons (d : D) (r : List D) : wr (d :: r) = pw d ++ wr r := by
  unfold wr
  rw [List.map_cons, joinE_cons]
theorem wr_len {d : D} {r : List D} {b m : Nat} (h : Sz b d) (h1 : 61 ≤ b) (h2 : b ≤ 100000) (hr : (wr r).length ≤ m) : (wr (d :: r)).length ≤ b + 10 + m := by
  rw [wr_cons, Str.length_append]
  have := pw_len h h1 h2
  omega
theorem num_cps (n : Nat) : (num (n : Int)).cps.toList = TL.numL n := TL.tl_num n
theorem numL_lo (n : Nat) : ∀ c ∈ TL.numL n, c < 128 := by
  intro c hc
  have := TL.numL_digits n c hc
  omega
theorem num_codes {n : Int} (h : 0 ≤ n) : ∀ c ∈ (num n).cps.toList, c < 128 := by
  intro c hc
  rw [show n = ((n.toNat : Nat) : Int) by omega, num_cps] at hc
  exact numL_lo _ c hc
theorem app_codes {a b : Str} (h1 : ∀ c ∈ a.cps.toList, c < 128) (h2 : ∀ c ∈ b.cps.toList, c < 128) : ∀ c ∈ (a ++ b).cps.toList, c < 128 := by
  intro c hc
  rw [Str.cps_append, Array.toList_append] at hc
  rcases List.mem_append.mp hc with h | h
  · exact h1 c h
  · exact h2 c h
theorem pw_codes {b : Nat} {d : D} (h : Sz b d) : ∀ c ∈ (pw d).cps.toList, c < 128 := by
  have c1 : ∀ c ∈ (";" : Str).cps.toList, c < 128 := by decide +kernel
  have c2 : ∀ c ∈ (":" : Str).cps.toList, c < 128 := by decide +kernel
  rcases h with ⟨n, rfl, h0, hn⟩ | ⟨z, rfl, _, hz⟩
  · exact app_codes (num_codes h0) c1
  · exact app_codes (app_codes (num_codes (by omega)) c2) hz
theorem wr_codes : ∀ {t : List D}, (∀ d ∈ t, Pt d) → ∀ c ∈ (wr t).cps.toList, c < 128
  | [], _, c, hc => by
    have : (wr []).cps.toList = [] := rfl
    rw [this] at hc
    cases hc
  | d :: r, h, c, hc => by
    rw [wr_cons] at hc
    exact app_codes (pw_codes (h d (List.mem_cons_self ..))) (wr_codes fun x hx => h x (List.mem_cons_of_mem _ hx)) c hc
/-- what a stamper may answer -/
def An (t : List D) (d : D) : Prop := Sz 61 d ∨ d = .str (wr t)
theorem An.sz {t : List D} {d : D} {b : Nat} (h : An t d) (ht : ∀ d ∈ t, Pt d) (hb : (wr t).length ≤ b) (h61 : 61 ≤ b := by omega) : Sz b d := by
  rcases h with h | h
  · exact h.up h61
  · exact .inr ⟨_, h, hb, wr_codes ht⟩
theorem sz_int {n : Int} (h0 : 0 ≤ n) (h1 : n < big) : Sz 61 (.int n) := .inl ⟨n, rfl, h0, h1⟩
/-! the weak stamper -/
def kStep (a : Int) : D → Int
  | .str z => 2 * a + (z.length : Int)
  | .int n => 2 * a + n
  | _ => a
def sm (t : List D) : Int := t.foldl kStep (t.length : Int)
theorem r_weak {m : Int} (h1 : 1 ≤ m) (h2 : m ≤ 9) {t : List D} (h : Gt t) (T : Sto) : m__law_weak__0 [.tup t, .int m] T = .ok (.int (sm t % m)) T := by
  obtain ⟨ρ', S', e1, q1, o3, q2⟩ := for_inv (it := itT t) (f := fName 3) (b := l1__law_weak__0)
    (fun i ρ U => U = T ∧ ∃ o3 : Option D, ρ = [some (.tup t), some (.int m), some (.int ((t.take i).foldl kStep (t.length : Int))), o3])
    (fun i ρ U hi ⟨q1, o3, q2⟩ => by
      subst q1 q2
      have hi' : i < t.length := hi
      have hd : t[i]? = some t[i] := List.getElem?_eq_getElem hi'
      have hg := h.2.2.2 t[i] (List.getElem_mem _)
      have ht : (t.take (i + 1)).foldl kStep (t.length : Int) = kStep ((t.take i).foldl kStep (t.length : Int)) t[i] := by
        rw [List.take_add_one, hd, List.foldl_append]
        rfl
      rw [ht]
      generalize t[i] = d at *
      generalize (t.take i).foldl kStep (t.length : Int) = a at *
      have c1 : cMul1 2 a = true := cMul1_l (by decide)
      rcases hg with ⟨n, rfl, _, _⟩ | ⟨z, rfl, hz, _⟩
      · exact ⟨.int n, _, [some (.tup t), some (.int m), some (.int (2 * a + n)), some (.int n)], U, hd, rfl, by simp [l1__law_weak__0, c1], rfl, _, rfl⟩
      · have hz2 : z.length ≤ 16777216 := by omega
        exact ⟨.str z, _, [some (.tup t), some (.int m), some (.int (2 * a + (z.length : Int))), some (.str z)], U, hd, rfl, by simp [l1__law_weak__0, c1, hz2], rfl, _, rfl⟩)
    (fun _ _ _ => rfl) (ρ := [some (.tup t), some (.int m), some (.int (t.length : Int)), none]) (S := T) ⟨rfl, none, rfl⟩
  subst q1 q2
  have hfull : t.take (itT t).cnt = t := List.take_length
  rw [hfull] at e1
  have hp : 0 < m := by omega
  have hl : t.length ≤ 16777216 := by have := h.2.1; omega
  exact def_rt (ρ0 := [some (.tup t), some (.int m), none, none]) (seq_nx (S' := S') (asg_of' (d := .int (t.length : Int)) (by simp [hl])) (seq_nx (for_of (it := itT t) (S1 := S') (by simp) e1) (by simp [sm, hp])))
/-! stampers -/
abbrev Dc := List (List Key × D)
/-- a book of stamps -/
structure Bk (T : Sto) (j : Nat) (n : Nat) (P : List D → Option D) (k : Dc) : Prop where
  at' : T[j]? = some (.dt k)
  len : k.length ≤ n
  sz : ∀ p ∈ k, Sz 61 p.2
  val : ∀ t d, P t = some d → Gt t ∧ valD k (t.map keyP) = some d
/-- it answers by the term alone -/
def PureK (g : List D → Sto → R D) (es : List D) (P : List D → Option D) : Prop := ∃ v : List D → D, (∀ t U, Gt t → ∃ G, g (.tup t :: es) U = .ok (v t) (U ++ G)) ∧ (∀ t, Gt t → An t (v t)) ∧ ∀ t d, P t = some d → Gt t ∧ d = v t
/-- it keeps a book -/
def BookK (g : List D → Sto → R D) (es : List D) (j : Nat) : Prop := ∀ (t : List D) (U : Sto) (k : Dc), Gt t → U[j]? = some (.dt k) → k.length < 100000 → ∃ x, Sz 61 x ∧ g (.tup t :: es) U = .ok ((valD k (t.map keyP)).getD x) (if (valD k (t.map keyP)).isSome = true then U else U.set j (.dt (putD k (t.map keyP) x)))
/-- a stamper at f, n askings old, of the stamps P so far -/
def Stm (n : Nat) (T : Sto) (f : Nat) (P : List D → Option D) : Prop := ∃ i W ns es g, T[f]? = some (.fn i W ns) ∧ tabV[i]? = some (W, g) ∧ celsD T ns = some es ∧ (PureK g es P ∨ ∃ j k, BookK g es j ∧ Bk T j n P k)
theorem cels_stay : ∀ {ns : List Nat} {T U : Sto} {es : List D}, celsD T ns = some es → (∀ (i : Nat) (d : D), T[i]? = some (.cel d) → U[i]? = some (.cel d)) → celsD U ns = some es
  | [], _, _, _, h, _ => h
  | n :: r, T, U, es, h, k => by
    unfold celsD at h ⊢
    cases q1 : T[n]? with
    | none => rw [q1] at h; cases h
    | some o =>
      rw [q1] at h
      cases q2 : celsD T r with
      | none => rw [q2] at h; cases o <;> cases h
      | some ds =>
        rw [q2] at h
        cases o with
        | cel d => rw [k n d q1, cels_stay q2 k]; exact h
        | _ => cases h
theorem cels_mem : ∀ {ns : List Nat} {T : Sto} {es : List D}, celsD T ns = some es → ∀ m ∈ ns, ∃ d, T[m]? = some (.cel d)
  | [], _, _, _, m, hm => nomatch hm
  | n :: r, T, es, h, m, hm => by
    unfold celsD at h
    cases q1 : T[n]? with
    | none => rw [q1] at h; cases h
    | some o =>
      rw [q1] at h
      cases q2 : celsD T r with
      | none => rw [q2] at h; cases o <;> cases h
      | some ds =>
        rcases List.mem_cons.mp hm with rfl | hm
        · cases o with
          | cel d => exact ⟨d, q1⟩
          | _ => rw [q2] at h; cases h
        · exact cels_mem q2 m hm
theorem Stm.fn {n : Nat} {T : Sto} {f : Nat} {P : List D → Option D} (h : Stm n T f P) : isFn (.ref f) T = true := by
  obtain ⟨i, W, ns, es, g, h, _⟩ := h
  exact isFn_ref h
theorem Bk.stay {T U : Sto} {j n : Nat} {P : List D → Option D} {k : Dc} (h : Bk T j n P k) (e : U[j]? = some (.dt k)) : Bk U j n P k := ⟨e, h.len, h.sz, h.val⟩
/-- what is no list stays -/
theorem Stm.stay {n : Nat} {T U : Sto} {f : Nat} {P : List D → Option D} (h : Stm n T f P) (k : ∀ (i : Nat) (o : Ob), T[i]? = some o → (∀ q, o ≠ Ob.lst q) → U[i]? = some o) : Stm n U f P := by
  obtain ⟨i, W, ns, es, g, a1, a2, a3, a4⟩ := h
  refine ⟨i, W, ns, es, g, k _ _ a1 (by simp), a2, cels_stay a3 fun i d e => k _ _ e (by simp), a4.imp id fun ⟨j, q, a5, a6⟩ => ⟨j, q, a5, a6.stay (k _ _ a6.at' (by simp))⟩⟩
theorem Stm.more {n : Nat} {T G : Sto} {f : Nat} {P : List D → Option D} (h : Stm n T f P) : Stm n (T ++ G) f P := h.stay fun _ _ e _ => at_more e
theorem Stm.up {n m : Nat} {T : Sto} {f : Nat} {P : List D → Option D} (h : Stm n T f P) (hm : n ≤ m) : Stm m T f P := by
  obtain ⟨i, W, ns, es, g, a1, a2, a3, a4⟩ := h
  exact ⟨i, W, ns, es, g, a1, a2, a3, a4.imp id fun ⟨j, q, a5, a6⟩ => ⟨j, q, a5, a6.at', by have := a6.len; omega, a6.sz, a6.val⟩⟩
theorem Stm.gt {n : Nat} {T : Sto} {f : Nat} {P : List D → Option D} (h : Stm n T f P) {t : List D} {d : D} (e : P t = some d) : Gt t := by
  obtain ⟨i, W, ns, es, g, a1, a2, a3, ⟨v, _, _, a4⟩ | ⟨j, q, _, a4⟩⟩ := h
  · exact (a4 t d e).1
  · exact (a4.val t d e).1
theorem closeC_at {S S' : Sto} {ns : List Nat} {m : Nat} {o : Ob} (e : S[m]? = some o) (h : m ∈ ns) (hl : S.length ≤ S'.length) : (closeC S S' ns)[m]? = some o := by
  have hm : m < S.length := (List.getElem?_eq_some_iff.mp e).1
  have h2 : m < (closeC S S' ns).length := by
    rw [closeC_len]
    omega
  have := List.getElem?_eq_getElem h2
  rw [this, closeC_in S m o _ e ns S' h this]
theorem closed {T : Sto} {ns : List Nat} {j : Nat} {k k' : Dc} (hj : T[j]? = some (.dt k)) (hn : j ∉ ns) {b : Bool} {G : Sto} (i : Nat) (o : Ob) (hi : T[i]? = some o) :
    (closeC T ((if b = true then openD T ns else (openD T ns).set j (.dt k')) ++ G) ns)[i]? = some (if i = j then .dt (if b = true then k else k') else o) := by
  have il : i < T.length := (List.getElem?_eq_some_iff.mp hi).1
  have jl : j < T.length := (List.getElem?_eq_some_iff.mp hj).1
  have hl : T.length ≤ ((if b = true then openD T ns else (openD T ns).set j (.dt k')) ++ G).length := by
    rw [List.length_append]
    split
    · rw [openD_len]; omega
    · rw [List.length_set, openD_len]; omega
  by_cases hm : i ∈ ns
  · have : i ≠ j := fun z => hn (by rw [← z]; exact hm)
    rw [if_neg this]
    exact closeC_at hi hm hl
  · rw [closeC_out _ _ _ _ hm]
    have hT : (openD T ns)[i]? = some o := by rw [openD_get, if_neg hm]; exact hi
    cases b with
    | true =>
      simp only [if_true]
      rw [List.getElem?_append_left (by rw [openD_len]; exact il), hT]
      by_cases hij : i = j
      · subst hij
        rw [hj] at hi
        cases hi
        rw [if_pos rfl]
      · rw [if_neg hij]
    | false =>
      simp only [Bool.false_eq_true, if_false]
      rw [List.getElem?_append_left (by rw [List.length_set, openD_len]; exact il)]
      by_cases hij : i = j
      · subst hij
        rw [if_pos rfl, List.getElem?_set_self (by rw [openD_len]; exact il)]
      · rw [if_neg hij, List.getElem?_set_ne (fun e => hij e.symm), hT]
theorem closed0 {T : Sto} {ns : List Nat} {G : Sto} (i : Nat) (o : Ob) (hi : T[i]? = some o) : (closeC T (openD T ns ++ G) ns)[i]? = some o := by
  have il : i < T.length := (List.getElem?_eq_some_iff.mp hi).1
  by_cases hm : i ∈ ns
  · exact closeC_at hi hm (by rw [List.length_append, openD_len]; omega)
  · rw [closeC_out _ _ _ _ hm, List.getElem?_append_left (by rw [openD_len]; exact il), openD_get, if_neg hm]
    exact hi
theorem valD_mem {k : Dc} {x : List Key} {d : D} (h : valD k x = some d) : ∃ p ∈ k, p.2 = d := by
  unfold valD at h
  cases q : k.find? fun kv => decide (kv.1 = x) with
  | none => rw [q] at h; cases h
  | some p =>
    rw [q] at h
    cases h
    exact ⟨p, List.mem_of_find?_eq_some q, rfl⟩
theorem putD_mem {k : Dc} {x : List Key} {d : D} {p : List Key × D} (h : p ∈ putD k x d) : p ∈ k ∨ p.2 = d := by
  unfold putD at h
  split at h
  · obtain ⟨q, hq, e⟩ := List.mem_map.mp h
    by_cases hx : q.1 = x
    · rw [if_pos hx] at e
      subst e
      exact .inr rfl
    · rw [if_neg hx] at e
      subst e
      exact .inl hq
  · rcases List.mem_append.mp h with h | h
    · exact .inl h
    · rw [List.mem_singleton.mp h]
      exact .inr rfl
theorem setd_run {U : Sto} {j : Nat} {k : Dc} {t : List D} {x : D} (hk : U[j]? = some (.dt k)) (ht : ∀ d ∈ t, isPt d = true) (hl : k.length < 16777216) :
    setdD j (.tup t) x U = .ok ((valD k (t.map keyP)).getD x) (if (valD k (t.map keyP)).isSome = true then U else U.set j (.dt (putD k (t.map keyP) x))) := by
  have hk2 : keyT (.tup t) = some (t.map keyP) := keysD_pts t ht
  unfold setdD
  rw [hk]
  dsimp only
  rw [hk2]
  dsimp only
  rw [if_pos (by rw [sizeLine_eq]; exact hl)]
  cases q : valD k (t.map keyP) with
  | none => simp
  | some d => simp
theorem dict_at {U : Sto} {j : Nat} {k : Dc} (h : U[j]? = some (.dt k)) : dictAt (.ref j) U = some j ∧ lstAt U j = none := by
  constructor
  · unfold dictAt
    dsimp only
    rw [h]
  · unfold lstAt
    rw [h]
noncomputable def updP (P : List D → Option D) (t : List D) (d : D) : List D → Option D := fun u => @ite _ (u = t) (Classical.propDecidable _) (some d) (P u)
theorem updP_self {P : List D → Option D} {t : List D} {d : D} : updP P t d t = some d := by
  unfold updP
  rw [if_pos rfl]
theorem updP_ne {P : List D → Option D} {t u : List D} {d : D} (h : ¬ u = t) : updP P t d u = P u := by
  unfold updP
  rw [if_neg h]
/-- the book behind an asking -/
theorem Bk.ask {T U : Sto} {j n : Nat} {P : List D → Option D} {k : Dc} (h : Bk T j n P k) {t : List D} (ht : Gt t) {x : D} (hx : Sz 61 x)
    (hU : U[j]? = some (.dt (if (valD k (t.map keyP)).isSome = true then k else putD k (t.map keyP) x))) :
    Bk U j (n + 1) (updP P t ((valD k (t.map keyP)).getD x)) (if (valD k (t.map keyP)).isSome = true then k else putD k (t.map keyP) x) ∧ (∀ e, P t = some e → (valD k (t.map keyP)).getD x = e) ∧ An t ((valD k (t.map keyP)).getD x) := by
  refine ⟨⟨hU, ?_, ?_, ?_⟩, fun e he => ?_, ?_⟩
  · have := h.len
    have := putD_le k (t.map keyP) x
    split <;> omega
  · intro p hp
    split at hp
    · exact h.sz p hp
    · rcases putD_mem hp with h1 | h1
      · exact h.sz p h1
      · rw [h1]
        exact hx
  · intro u d hd
    by_cases hut : u = t
    · subst hut
      rw [updP_self] at hd
      cases hd
      refine ⟨ht, ?_⟩
      cases q : valD k (u.map keyP) with
      | some e => simp [q]
      | none => simp [valD_put]
    · rw [updP_ne hut] at hd
      obtain ⟨hu, this⟩ := h.val u d hd
      refine ⟨hu, ?_⟩
      split
      · exact this
      · rename_i hno
        rw [valD_put, if_neg]
        · exact this
        · intro e
          exact hut (keysP_inj hu.pt ht.pt e)
  · rw [(h.val t e he).2]
    rfl
  · cases q : valD k (t.map keyP) with
    | none => exact .inl hx
    | some d =>
      obtain ⟨p, h1, h2⟩ := valD_mem q
      exact .inl (by rw [← h2]; exact h.sz p h1)
def Keep (T U : Sto) : Prop := ∀ (i : Nat) (o : Ob), T[i]? = some o → (∀ q, o ≠ Ob.dt q) → U[i]? = some o
theorem Keep.refl {T : Sto} : Keep T T := fun _ _ h _ => h
theorem Keep.trans {T U V : Sto} (h : Keep T U) (k : Keep U V) : Keep T V := fun i o e n => k i o (h i o e n) n
theorem Keep.app {T G : Sto} : Keep T (T ++ G) := fun _ _ h _ => at_more h
def Ext (P Q : List D → Option D) : Prop := ∀ u e, P u = some e → Q u = some e
theorem Ext.refl {P : List D → Option D} : Ext P P := fun _ _ h => h
theorem Ext.trans {P Q R : List D → Option D} (h : Ext P Q) (k : Ext Q R) : Ext P R := fun u e x => k u e (h u e x)
theorem Ext.upd {P : List D → Option D} {t : List D} {d : D} (h : ∀ e, P t = some e → d = e) : Ext P (updP P t d) := fun u e he => by
  by_cases hut : u = t
  · subst hut
    rw [updP_self]
    exact congrArg some (h e he)
  · rw [updP_ne hut]
    exact he
/-- a stamper is asked -/
theorem ask {n : Nat} {T : Sto} {f : Nat} {P : List D → Option D} (h : Stm n T f P) (hn : n < 100000) {t : List D} (ht : Gt t) :
    ∃ T' d P', callV tabV (.ref f) [.tup t] T = .ok d T' ∧ Stm (n + 1) T' f P' ∧ P' t = some d ∧ Ext P P' ∧ Keep T T' ∧ An t d := by
  obtain ⟨i, W, ns, es, g, a1, a2, a3, ⟨v, b1, b2, b3⟩ | ⟨j, k, b1, b2⟩⟩ := h
  · obtain ⟨G, e⟩ := b1 t (openD T ns) ht
    have hk : ∀ (i : Nat) (o : Ob), T[i]? = some o → (closeC T (openD T ns ++ G) ns)[i]? = some o := fun i o hi => closed0 i o hi
    refine ⟨closeC T (openD T ns ++ G) ns, v t, updP P t (v t), by rw [callV_ref a1 a2]; exact runV_ok a3 e, ⟨i, W, ns, es, g, hk _ _ a1, a2, cels_stay a3 fun i d e => hk _ _ e, .inl ⟨v, b1, b2, fun u d hd => ?_⟩⟩, updP_self, Ext.upd fun e' he => (b3 t e' he).2.symm, fun i o hi _ => hk i o hi, b2 t ht⟩
    by_cases hut : u = t
    · subst hut
      rw [updP_self] at hd
      exact ⟨ht, (Option.some.inj hd).symm⟩
    · rw [updP_ne hut] at hd
      exact b3 u d hd
  · have hcj : j ∉ ns := fun z => by
      obtain ⟨d, e⟩ := cels_mem a3 j z
      rw [b2.at'] at e
      cases e
    have hl : k.length < 100000 := by have := b2.len; omega
    have ho : (openD T ns)[j]? = some (.dt k) := by rw [openD_get, if_neg hcj]; exact b2.at'
    obtain ⟨x, hx, e⟩ := b1 t (openD T ns) k ht ho hl
    have hk := @closed T ns j k (putD k (t.map keyP) x) b2.at' hcj (valD k (t.map keyP)).isSome []
    simp only [List.append_nil] at hk
    obtain ⟨c1, c2, c3⟩ := b2.ask (x := x) ht hx (U := closeC T (if (valD k (t.map keyP)).isSome = true then openD T ns else (openD T ns).set j (.dt (putD k (t.map keyP) x))) ns) (by rw [hk j _ b2.at', if_pos rfl])
    have keep : Keep T (closeC T (if (valD k (t.map keyP)).isSome = true then openD T ns else (openD T ns).set j (.dt (putD k (t.map keyP) x))) ns) := fun i o hi no => by
      rw [hk i o hi, if_neg]
      intro z
      rw [z, b2.at'] at hi
      exact no _ (Option.some.inj hi).symm
    exact ⟨_, _, _, by rw [callV_ref a1 a2]; exact runV_ok a3 e, ⟨i, W, ns, es, g, keep _ _ a1 (by simp), a2, cels_stay a3 fun i d e => keep _ _ e (by simp), .inr ⟨j, _, b1, c1⟩⟩, updP_self, Ext.upd c2, keep, c3⟩
/-! the law's stampers -/
theorem k_weak {m : Int} (h1 : 1 ≤ m) (h2 : m ≤ 9) : PureK m__law_weak__0 [.int m] fun _ => none := by
  refine ⟨fun t => .int (sm t % m), fun t U h => ⟨[], by rw [List.append_nil]; exact r_weak h1 h2 h U⟩, fun t _ => .inl ?_, fun t d e => nomatch e⟩
  have m0 : 0 ≤ sm t % m := Int.emod_nonneg _ (by omega)
  have m1 : sm t % m < m := Int.emod_lt_of_pos _ (by omega)
  exact sz_int m0 (Int.lt_trans m1 (Int.lt_of_le_of_lt h2 (by decide)))
theorem k_writing : PureK m_writing__1 [] fun _ => none :=
  ⟨fun t => .str (wr t), fun t U h => by
    obtain ⟨G, e⟩ := r_written h U
    exact ⟨G, by simp [m_writing__1, b_writing__1, e]⟩, fun t _ => .inr rfl, fun t d e => nomatch e⟩
theorem k_counting (j : Nat) : BookK m_counting__2 [.ref j] j := fun t U k ht h hl => by
  obtain ⟨e2, e4⟩ := dict_at h
  have e3 := setd_run (x := .int k.length) h ht.pt (by omega)
  have e5 := tm_is ht U
  exact ⟨.int k.length, sz_int (by omega) (Int.lt_trans (show (k.length : Int) < 100000 by omega) (by decide)), by simp [m_counting__2, b_counting__2, e2, e3, e4, e5, h]⟩
theorem k_sure (j : Nat) {s : Int} (h0 : 1 ≤ s) (h1 : s ≤ 9) : BookK m__law_sure__3 [.ref j, .int s] j := fun t U k ht h hl => by
  obtain ⟨e2, e4⟩ := dict_at h
  have e3 := setd_run (x := .int (s * k.length + 5)) h ht.pt (by omega)
  have c1 : cMul1 s (k.length : Int) = true := cMul1_r (by omega)
  have hx : 0 ≤ s * (k.length : Int) + 5 ∧ s * (k.length : Int) + 5 < 1000000 := by
    have h1 : 0 ≤ s * (k.length : Int) := Int.mul_nonneg (by omega) (by omega)
    have h2 : s * (k.length : Int) ≤ 9 * (k.length : Int) := Int.mul_le_mul_of_nonneg_right (by omega) (by omega)
    omega
  exact ⟨.int (s * k.length + 5), sz_int hx.1 (Int.lt_trans hx.2 (by decide)), by simp [m__law_sure__3, b__law_sure__3, e2, e3, e4, h, c1]⟩
theorem Stm.pure {T : Sto} {f i : Nat} {W : NW} {ns : List Nat} {es : List D} {g : List D → Sto → R D} (h1 : T[f]? = some (.fn i W ns)) (h2 : tabV[i]? = some (W, g)) (h3 : celsD T ns = some es) (h4 : PureK g es fun _ => none) : Stm 0 T f fun _ => none :=
  ⟨i, W, ns, es, g, h1, h2, h3, .inl h4⟩
theorem Stm.book {T : Sto} {f i j : Nat} {W : NW} {ns : List Nat} {es : List D} {g : List D → Sto → R D} (h1 : T[f]? = some (.fn i W ns)) (h2 : tabV[i]? = some (W, g)) (h3 : celsD T ns = some es) (h4 : BookK g es j) (h5 : T[j]? = some (.dt [])) : Stm 0 T f fun _ => none :=
  ⟨i, W, ns, es, g, h1, h2, h3, .inr ⟨j, [], h4, h5, Nat.le_refl _, by simp, by simp⟩⟩
theorem r_stamper (c : Int) (T : Sto) : ∃ (f : Nat) (G : Sto), m__law_stamper [.int c] T = .ok (.ref f) (T ++ G) ∧ Stm 0 (T ++ G) f fun _ => none := by
  have at' : ∀ (G : Sto) (i : Nat) (o : Ob), G[i]? = some o → (T ++ G)[T.length + i]? = some o := fun G i o h => by
    rw [List.getElem?_append_right (by omega), show T.length + i - T.length = i by omega]
    exact h
  have cl1 : ∀ (G : Sto) (i : Nat) (d : D), G[i]? = some (.cel d) → celsD (T ++ G) [T.length + i] = some [d] := fun G i d h => by
    have := at' G i _ h
    unfold celsD celsD
    rw [this]
  have cl2 : ∀ (G : Sto) (i k : Nat) (d e : D), G[i]? = some (.cel d) → G[k]? = some (.cel e) → celsD (T ++ G) [T.length + i, T.length + k] = some [d, e] := fun G i k d e h h2 => by
    have := at' G i _ h
    unfold celsD
    rw [this, cl1 G k e h2]
  by_cases c0 : c % 5 = 0
  · have e : m_writing [] T = .ok (.ref T.length) (T ++ [.fn 1 W_writing__1 []]) := by simp [m_writing, b_writing]
    exact ⟨T.length, [.fn 1 W_writing__1 []], by simp [m__law_stamper, b__law_stamper, mCall0, c0, e], Stm.pure (ns := []) (at' _ 0 _ rfl) rfl rfl k_writing⟩
  by_cases c1 : c % 5 = 1
  · have e : m_counting [] T = .ok (.ref (T.length + 2)) (T ++ [.dt [], .cel (.ref T.length), .fn 2 W_counting__2 [T.length + 1]]) := by simp [m_counting, b_counting]
    exact ⟨T.length + 2, [.dt [], .cel (.ref T.length), .fn 2 W_counting__2 [T.length + 1]], by simp [m__law_stamper, b__law_stamper, mCall0, c0, c1, e], Stm.book (j := T.length) (at' _ 2 _ rfl) rfl (cl1 _ 1 _ rfl) (k_counting _) (at' _ 0 _ rfl)⟩
  generalize hm : 1 + c / 5 % 9 = m
  have m1 : 1 ≤ m := by omega
  have m9 : m ≤ 9 := by omega
  by_cases c2 : c % 5 = 2
  · have e : m__law_sure [.int m] T = .ok (.ref (T.length + 3)) (T ++ [.dt [], .cel (.ref T.length), .cel (.int m), .fn 3 W__law_sure__3 [T.length + 1, T.length + 2]]) := by simp [m__law_sure, b__law_sure, List.range']
    exact ⟨T.length + 3, [.dt [], .cel (.ref T.length), .cel (.int m), .fn 3 W__law_sure__3 [T.length + 1, T.length + 2]], by simp [m__law_stamper, b__law_stamper, c0, c1, c2, hm, e], Stm.book (j := T.length) (at' _ 3 _ rfl) rfl (cl2 _ 1 2 _ _ rfl rfl) (k_sure _ m1 m9) (at' _ 0 _ rfl)⟩
  · have e : m__law_weak [.int m] T = .ok (.ref (T.length + 1)) (T ++ [.cel (.int m), .fn 0 W__law_weak__0 [T.length]]) := by simp [m__law_weak, b__law_weak]
    exact ⟨T.length + 1, [.cel (.int m), .fn 0 W__law_weak__0 [T.length]], by simp [m__law_stamper, b__law_stamper, c0, c1, c2, hm, e], Stm.pure (ns := [T.length]) (at' _ 1 _ rfl) rfl (cl1 _ 0 _ rfl) (k_weak m1 m9)⟩

/-! the top of a row -/
def hf (n : Nat) : Nat := 2 ^ (n - 1).log2
theorem hf_nat {n : Nat} (h : 2 ≤ n) : hf n < n ∧ n ≤ 2 * hf n ∧ 1 ≤ hf n := by
  have h1 : n - 1 ≠ 0 := by omega
  have a := Nat.log2_self_le h1
  have b := Nat.lt_log2_self (n := n - 1)
  have c := Nat.two_pow_pos (n - 1).log2
  rw [Nat.pow_succ] at b
  unfold hf
  omega
theorem hf_is {n a : Nat} (h1 : 2 ^ a < n) (h2 : n ≤ 2 ^ (a + 1)) : hf n = 2 ^ a := by
  have h : (n - 1).log2 = a := by
    have z := Nat.two_pow_pos a
    have h3 : n - 1 ≠ 0 := by omega
    have l1 := (Nat.log2_lt h3 (k := a + 1)).mpr (by omega)
    have l2 : ¬ (n - 1).log2 < a := fun z => by
      have := (Nat.log2_lt h3).mp z
      omega
    omega
  unfold hf
  rw [h]
theorem r_half {n : Nat} (h : 2 ≤ n) (h2 : n < 1000) (S : Sto) : m_half [.int (n : Int)] S = .ok (.int (hf n : Int)) S := by
  have e : ((n : Int) - 1).natAbs = n - 1 := by omega
  have hb : Builtin.Int.intBits ((n : Int) - 1) = (n - 1).log2 + 1 := by
    rw [bits_of (by omega), e]
  have hl : (n - 1).log2 < 62 := (Nat.log2_lt (by omega)).mpr (by omega)
  have hl2 : ((n - 1).log2 : Int) ≤ 134217727 := by omega
  simp [m_half, b_half, hb, hl2, hf]
/-- what the top of the entries is, by the stamps so far -/
inductive Tp (P : List D → Option D) : List D → D → Prop
  | void {d : D} : P [.str "void"] = some d → Tp P [] d
  | one {e d : D} : P [.str "entry", e] = some d → Tp P [e] d
  | two {es : List D} {l r d : D} : 2 ≤ es.length → Tp P (es.take (hf es.length)) l → Tp P (es.drop (hf es.length)) r → P [.str "joint", l, r] = some d → Tp P es d
theorem Tp.ext {P Q : List D → Option D} {es : List D} {d : D} (h : Tp P es d) (x : Ext P Q) : Tp Q es d := by
  induction h with
  | void h => exact .void (x _ _ h)
  | one h => exact .one (x _ _ h)
  | two h _ _ e i1 i2 => exact .two h i1 i2 (x _ _ e)
theorem Tp.det {P : List D → Option D} {es : List D} {d : D} (h : Tp P es d) : ∀ {d' : D}, Tp P es d' → d = d' := by
  induction h with
  | void h =>
    intro d' h'
    cases h' with
    | void h2 => exact Option.some.inj (h.symm.trans h2)
    | two h1 _ _ _ => simp at h1
  | one h =>
    intro d' h'
    cases h' with
    | one h2 => exact Option.some.inj (h.symm.trans h2)
    | two h1 _ _ _ => simp at h1
  | two h _ _ e i1 i2 =>
    intro d' h'
    cases h' with
    | void h2 => simp at h
    | one h2 => simp at h
    | two h1 j1 j2 e2 =>
      rw [i1 j1, i2 j2, e2] at e
      exact (Option.some.inj e).symm
theorem wr1 (s : Str) (hs : Sz 61 (.str s)) : (wr [.str s]).length ≤ 71 := wr_len hs (Nat.le_refl _) (by decide) (m := 0) (Nat.le_refl _)
theorem wr2 {s : Str} (hs : Sz 61 (.str s)) {b : Nat} {x : D} (hx : Sz b x) (h1 : 61 ≤ b) (h2 : b ≤ 100000) : (wr [.str s, x]).length ≤ b + 81 := by
  have := wr_len hs (Nat.le_refl _) (by decide) (wr_len hx h1 h2 (r := []) (m := 0) (Nat.le_refl _))
  omega
theorem wr3 {s : Str} (hs : Sz 61 (.str s)) {b c : Nat} {x y : D} (hx : Sz b x) (hy : Sz c y) (h1 : 61 ≤ b) (h2 : b ≤ 100000) (h3 : 61 ≤ c) (h4 : c ≤ 100000) : (wr [.str s, x, y]).length ≤ b + c + 91 := by
  have := wr_len hs (Nat.le_refl _) (by decide) (wr_len hx h1 h2 (wr_len hy h3 h4 (r := []) (m := 0) (Nat.le_refl _)))
  omega
theorem sz_lit {s : Str} (h : (decide (s.length ≤ 61) && s.cps.toList.all fun c => decide (c < 128)) = true) : Sz 61 (.str s) := by
  simp only [Bool.and_eq_true, decide_eq_true_eq, List.all_eq_true] at h
  exact .inr ⟨s, rfl, h.1, h.2⟩
theorem sz_void : Sz 61 (.str "void") := sz_lit (by decide +kernel)
theorem sz_entry : Sz 61 (.str "entry") := sz_lit (by decide +kernel)
theorem sz_joint : Sz 61 (.str "joint") := sz_lit (by decide +kernel)
theorem sz_row : Sz 61 (.str "row") := sz_lit (by decide +kernel)
theorem gt1 {s : Str} (hs : Sz 61 (.str s)) : Gt [.str s] := ⟨by simp, by simp, rfl, fun d hd => by
  rw [List.mem_singleton.mp hd]
  exact hs.up (by decide)⟩
theorem gt2 {s : Str} (hs : Sz 61 (.str s)) {x : D} (hx : Pt x) : Gt [.str s, x] := ⟨by simp, by simp, rfl, fun d hd => by
  simp at hd
  rcases hd with rfl | rfl
  · exact hs.up (by decide)
  · exact hx⟩
theorem gt3 {s : Str} (hs : Sz 61 (.str s)) {x y : D} (hx : Pt x) (hy : Pt y) : Gt [.str s, x, y] := ⟨by simp, by simp, rfl, fun d hd => by
  simp at hd
  rcases hd with rfl | rfl | rfl
  · exact hs.up (by decide)
  · exact hx
  · exact hy⟩
/-- an entry of a row -/
abbrev Ent (d : D) : Prop := Sz 100 d
/-- how great the text of a top may be -/
def bw (m : Nat) : Nat := 300 * m + 200
theorem An.void {d : D} (h : An [.str "void"] d) : Sz (bw 0) d := h.sz (gt1 sz_void).2.2.2 (by have := wr1 _ sz_void; unfold bw; omega) (by unfold bw; omega)
theorem An.one {e d : D} (he : Ent e) (h : An [.str "entry", e] d) : Sz 200 d := h.sz (gt2 sz_entry (he.up (by decide))).2.2.2 (by have := wr2 sz_entry he (by decide) (by decide); omega)
theorem An.two {l r d : D} {a b : Nat} (ha : 1 ≤ a) (hb : 1 ≤ b) (hab : a + b ≤ 100) (hl : Sz (300 * a - 100) l) (hr : Sz (300 * b - 100) r) (h : An [.str "joint", l, r] d) : Sz (300 * (a + b) - 100) d := by
  refine h.sz (gt3 sz_joint (hl.up (by omega)) (hr.up (by omega))).2.2.2 ?_
  have := wr3 sz_joint hl hr (by omega) (by omega) (by omega) (by omega)
  omega
/-- the size of a top of m entries -/
def sw (m : Nat) : Nat := if m = 0 then 200 else 300 * m - 100
theorem sw_pos {m : Nat} (h : 1 ≤ m) : sw m = 300 * m - 100 := if_neg (by omega)
theorem sw_le (m : Nat) (h : m ≤ 100) : 61 ≤ sw m ∧ sw m ≤ 30000 := by
  unfold sw
  split <;> omega
theorem lst_take {es : List D} {c : Nat} (h : c ≤ es.length) : Eng.cutD es none (some (c : Int)) = es.take c := by
  unfold Eng.cutD
  have e1 : HT.sIx es.length 0 none = 0 := rfl
  rw [e1, HT.sIx_nat, List.drop_zero, Nat.sub_zero, Nat.min_eq_left h]
theorem lst_drop {es : List D} {c : Nat} (h : c ≤ es.length) : Eng.cutD es (some (c : Int)) none = es.drop c := by
  unfold Eng.cutD
  have e1 : HT.sIx es.length es.length none = es.length := rfl
  rw [e1, HT.sIx_nat, Nat.min_eq_left h]
  exact List.take_of_length_le (by rw [List.length_drop]; exact Nat.le_refl _)
theorem lst_of {T : Sto} {L : Nat} {es : List D} (h : T[L]? = some (.lst es)) : lstAt T L = some es := by
  unfold lstAt
  rw [h]
/-- how often a top of m entries asks -/
def ak (m : Nat) : Nat := if m = 0 then 1 else 2 * m - 1
theorem ak_pos {m : Nat} (h : 1 ≤ m) : ak m = 2 * m - 1 := if_neg (by omega)
theorem ak_le (m : Nat) : ak m ≤ 2 * m + 1 := by
  unfold ak
  split <;> omega
theorem r_top : ∀ (k : Nat) (es : List D) (n : Nat) (T : Sto) (f L : Nat) (P : List D → Option D), es.length ≤ k → es.length ≤ 100 → Stm n T f P → n + ak es.length < 100000 → T[L]? = some (.lst es) → (∀ e ∈ es, Ent e) →
    ∃ T' d P', r_top_of (k + 1) [.ref f, .ref L] T = .ok d T' ∧ Stm (n + ak es.length) T' f P' ∧ Ext P P' ∧ Keep T T' ∧ Tp P' es d ∧ Sz (sw es.length) d := by
  intro k
  induction k with
  | zero =>
    intro es n T f L P hk h1 st hn hL he
    have e0 : es = [] := List.eq_nil_of_length_eq_zero (by omega)
    subst e0
    obtain ⟨T', d, P', a1, a2, a3, a4, a5, a6⟩ := ask st (by omega) (gt1 sz_void)
    have hfn := st.fn
    have lL := lst_of hL
    exact ⟨T', d, P', by simp [r_top_of, b_top_of, lL, hL, hfn, a1], a2, a4, a5, .void a3, a6.void⟩
  | succ k ih =>
    intro es n T f L P hk h1 st hn hL he
    have hfn := st.fn
    have lL := lst_of hL
    have l16 : es.length ≤ 16777216 := by omega
    by_cases h0 : es.length = 0
    · have e0 : es = [] := List.eq_nil_of_length_eq_zero h0
      subst e0
      obtain ⟨T', d, P', a1, a2, a3, a4, a5, a6⟩ := ask st (by omega) (gt1 sz_void)
      exact ⟨T', d, P', by simp [r_top_of, b_top_of, lL, hL, hfn, a1], a2, a4, a5, .void a3, a6.void⟩
    by_cases h10 : es.length = 1
    · obtain ⟨e, rfl⟩ := List.length_eq_one_iff.mp h10
      have hee := he e (by simp)
      obtain ⟨T', d, P', a1, a2, a3, a4, a5, a6⟩ := ask st (by omega) (gt2 sz_entry (hee.up (by decide)))
      have at0 : atI [e] 0 = some e := rfl
      exact ⟨T', d, P', by simp [r_top_of, b_top_of, lL, hL, hfn, a1, at0], a2, a4, a5, .one a3, a6.one hee⟩
    obtain ⟨f1, f2, f3⟩ := hf_nat (n := es.length) (by omega)
    have rh := r_half (n := es.length) (by omega) (by omega)
    have ct := lst_take (es := es) (c := hf es.length) (by omega)
    have cd := lst_drop (es := es) (c := hf es.length) (by omega)
    have l1 : (es.take (hf es.length)).length = hf es.length := by rw [List.length_take, Nat.min_eq_left (by omega)]
    have l2 : (es.drop (hf es.length)).length = es.length - hf es.length := List.length_drop
    have k0 := ak_pos (m := es.length) (by omega)
    have k1 := ak_pos (m := hf es.length) (by omega)
    have k2 := ak_pos (m := es.length - hf es.length) (by omega)
    rw [k0] at hn ⊢
    obtain ⟨T1, dl, P1, a1, a2, a3, a4, a5, a6⟩ := ih (es.take (hf es.length)) n (T ++ [.lst (es.take (hf es.length))]) f T.length P (by omega) (by omega) st.more (by rw [l1, k1]; omega) (by simp) fun e hm => he e (List.mem_of_mem_take hm)
    have hL1 : T1[L]? = some (.lst es) := a4 _ _ (at_more hL) (by simp)
    obtain ⟨T2, dr, P2, b1, b2, b3, b4, b5, b6⟩ := ih (es.drop (hf es.length)) (n + ak (es.take (hf es.length)).length) (T1 ++ [.lst (es.drop (hf es.length))]) f T1.length P1 (by omega) (by omega) a2.more (by rw [l1, l2, k1, k2]; omega) (by simp) fun e hm => he e (List.mem_of_mem_drop hm)
    rw [l1, l2, k1, k2] at b2
    rw [l1, sw_pos (by omega)] at a6
    rw [l2, sw_pos (by omega)] at b6
    have gj : Gt [.str "joint", dl, dr] := gt3 sz_joint (a6.up (by omega)) (b6.up (by omega))
    obtain ⟨T3, d, P3, c1, c2, c3, c4, c5, c6⟩ := ask b2 (by omega) gj
    have hfn2 := b2.fn
    have lL1 := lst_of hL1
    have n1 : ¬ (es.length : Int) = 0 := by omega
    have n2 : ¬ (es.length : Int) = 1 := by omega
    have keep : Keep T T3 := (((Keep.app.trans a4).trans Keep.app).trans b4).trans c5
    have sz := An.two (by omega) (by omega) (by omega) a6 b6 c6
    have hsum : hf es.length + (es.length - hf es.length) = es.length := by omega
    rw [hsum, ← sw_pos (by omega)] at sz
    refine ⟨T3, d, P3, ?_, c2.up (by omega), (a3.trans b3).trans c4, keep, .two (by omega) ((a5.ext b3).ext c4) (b5.ext c4) c3, sz⟩
    generalize hw : hf es.length = w at *
    generalize es.take w = E1 at *
    generalize es.drop w = E2 at *
    generalize hm : es.length = m at *
    have m16 : m ≤ 16777216 := by omega
    unfold r_top_of
    refine def_rt (ρ0 := [some (.ref f), some (.ref L), none, none, none, none]) ?_
    unfold b_top_of
    simp [lL, hL, hm, m16, n1, n2, rh, ct, a1, lL1, hL1, cd, b1, hfn2, c1, h0, h10]


/-! rows -/
def rowO (f E : Nat) : Ob := .ins "Row" [("stamper", .ref f), ("entries", .ref E)]
structure Rw (T : Sto) (r f E : Nat) (es : List D) : Prop where
  row : T[r]? = some (rowO f E)
  lst : T[E]? = some (.lst es)
theorem Rw.keep {T U : Sto} {r f E : Nat} {es : List D} (h : Rw T r f E es) (k : Keep T U) : Rw U r f E es := ⟨k _ _ h.row (by simp [rowO]), k _ _ h.lst (by simp)⟩
theorem Rw.set {T : Sto} {r f E : Nat} {es xs : List D} (h : Rw T r f E es) : Rw (T.set E (.lst xs)) r f E xs := by
  have he := (List.getElem?_eq_some_iff.mp h.lst).1
  refine ⟨?_, List.getElem?_set_self he⟩
  rw [List.getElem?_set_ne]
  · exact h.row
  · intro z
    have h1 := h.lst
    rw [z, h.row] at h1
    cases h1
theorem Rw.other {T : Sto} {r f E F : Nat} {es xs ys : List D} (h : Rw T r f E es) (hF : T[F]? = some (.lst ys)) (hn : F ≠ E) : Rw (T.set F (.lst xs)) r f E es := by
  refine ⟨?_, ?_⟩
  · rw [List.getElem?_set_ne]
    · exact h.row
    · intro z
      rw [z, h.row] at hF
      cases hF
  · rw [List.getElem?_set_ne hn]
    exact h.lst
theorem Stm.set {n : Nat} {T : Sto} {f : Nat} {P : List D → Option D} (h : Stm n T f P) {F : Nat} {ys xs : List D} (hF : T[F]? = some (.lst ys)) : Stm n (T.set F (.lst xs)) f P := h.stay fun i o hi no => by
  rw [List.getElem?_set_ne]
  · exact hi
  · intro z
    rw [← z, hF] at hi
    exact no _ (Option.some.inj hi).symm
theorem r_init (T : Sto) (f : Nat) : m_Row___init__ [.ref T.length, .ref f] (T ++ [.ins "Row" []]) = .ok .non (T ++ [rowO f (T.length + 1), .lst []]) := by
  simp [m_Row___init__, b_Row___init__, rowO]
theorem fld_st {T : Sto} {r f E : Nat} {es : List D} (h : Rw T r f E es) : fldD "stamper" (.ref r) T = .ok (.ref f) T := by
  simp [h.row, rowO]
theorem fld_en {T : Sto} {r f E : Nat} {es : List D} (h : Rw T r f E es) : fldD "entries" (.ref r) T = .ok (.ref E) T := by
  simp [h.row, rowO, List.lookup]
theorem disp_row {T : Sto} {r f E : Nat} {es : List D} (h : Rw T r f E es) {m : Str} {g : List D → Sto → R D} (h1 : m ≠ "stamper") (h2 : m ≠ "entries") : disp [("Row", g)] m (.ref r) T = some g := by
  have e1 : (m == ("stamper" : Str)) = false := by simpa using h1
  have e2 : (m == ("entries" : Str)) = false := by simpa using h2
  simp [disp_ref, h.row, rowO, List.lookup, e1, e2]
theorem r_below {c m : Nat} (h : c < m) (T : Sto) : m_is_below [.int (c : Int), .int (m : Int)] T = .ok (.bl true) T := by
  have h1 : (c : Int) < (m : Int) := by omega
  simp [m_is_below, b_is_below, m_is_whole, b_is_whole, h1, h]
theorem r_first {T : Sto} {r f E : Nat} {es : List D} (h : Rw T r f E es) {c : Nat} (hc : c ≤ es.length) (hl : es.length ≤ 100) : m_Row_first [.ref r, .int (c : Int)] T = .ok (.ref T.length) (T ++ [.lst (es.take c)]) := by
  have hE := h.lst
  have lE := lst_of hE
  have hb := r_below (c := c) (m := es.length + 1) (by omega) T
  have hb' : m_is_below [.int (c : Int), .int ((es.length : Int) + 1)] T = .ok (.bl true) T := hb
  have h16 : es.length ≤ 16777216 := by omega
  have hf1 := fld_en h
  have hct := lst_take hc
  simp [-fldD_ref, m_Row_first, b_Row_first, hf1, hE, lE, h16, hb', hct]
theorem pt_count {c : Nat} (h : c ≤ 100) : Pt (.int (c : Int)) := .inl ⟨c, rfl, by omega, Int.lt_of_le_of_lt (show (c : Int) ≤ 100 by omega) (by decide)⟩
theorem An.row {c : Nat} (hc : c ≤ 100) {top d : D} (ht : Sz 30000 top) (h : An [.str "row", .int (c : Int), top] d) : Pt d := by
  have hi : Sz 61 (.int (c : Int)) := .inl ⟨c, rfl, by omega, Int.lt_of_le_of_lt (show (c : Int) ≤ 100 by omega) (by decide)⟩
  refine h.sz (gt3 sz_row (pt_count hc) (ht.up (by decide))).2.2.2 ?_
  have := wr3 sz_row hi ht (by decide) (by decide) (by decide) (by decide)
  omega
theorem eq_pt {b : Nat} {d : D} (h : Sz b d) (T : Sto) : eqD T d d = some true := by
  rcases h with ⟨n, rfl, _⟩ | ⟨z, rfl, _⟩ <;> simp
theorem r_stamp {d : D} (h : Pt d) (T : Sto) : m_is_stamp [d] T = .ok (.bl true) T := by
  rw [s_stamp (pt_simple h).1, (pt_simple h).2]
theorem r_add {T : Sto} {r f E : Nat} {es : List D} (h : Rw T r f E es) {e : D} (he : Ent e) (hl : es.length ≤ 100) : m_Row_add [.ref r, e] T = .ok (.int (es.length : Int)) (T.set E (.lst (es ++ [e]))) := by
  have f1 := fld_en h
  have h2 := h.set (xs := es ++ [e])
  have f2 := fld_en h2
  have l1 := lst_of h.lst
  have l2 := lst_of h2.lst
  have rs := r_stamp (he.up (by decide)) T
  have g1 := h.lst
  have g2 := h2.lst
  have s1 : es.length < 16777216 := by omega
  have sa : sExpr (mBM ckL fAppend (mFld (mVar 0) "entries") (mCons (mVar 1) mNil)) [some (.ref r), some e] T = .fl (.nx [some (.ref r), some e]) (T.set E (.lst (es ++ [e]))) := by
    simp [-fldD_ref, f1, l1, g1, s1]
  generalize T.set E (.lst (es ++ [e])) = U at *
  have hX : (es ++ [e]).length = es.length + 1 := by simp
  generalize es ++ [e] = X at *
  have s2 : X.length ≤ 16777216 := by omega
  refine def_rt (ρ0 := [some (.ref r), some e]) (seq_nx (S' := T) (ρ' := [some (.ref r), some e]) (by simp [rs]) (seq_nx sa ?_))
  simp [-fldD_ref, f2, l2, g2, s2, hX]
theorem keep_set {T S : Sto} (h : Keep T S) {p : Nat} (hp : T.length ≤ p) (o : Ob) : Keep T (S.set p o) := fun i x hi no => by
  have := (List.getElem?_eq_some_iff.mp hi).1
  rw [List.getElem?_set_ne (by omega)]
  exact h i x hi no
theorem last_pk (X : List D) (y : D) : atI (X ++ [y]) (-1) = some y := by
  have hl : (X ++ [y]).length = X.length + 1 := by simp
  unfold atI ixN
  rw [if_neg (by decide), hl, if_pos (by omega)]
  show (some ((-1 : Int) + ((X.length + 1 : Nat) : Int)).toNat).bind (fun j => (X ++ [y])[j]?) = _
  rw [show ((-1 : Int) + ((X.length + 1 : Nat) : Int)).toNat = X.length by omega]
  simp
/-! entries -/
theorem join_codes : ∀ {ys : List Str}, (∀ y ∈ ys, ∀ c ∈ y.cps.toList, c < 128) → ∀ c ∈ (Txt.join "" ys).cps.toList, c < 128
  | [], _, c, hc => by
    have : (Txt.join "" []).cps.toList = [] := rfl
    rw [this] at hc
    cases hc
  | y :: ys, h, c, hc => by
    rw [joinE_cons, Str.cps_append, Array.toList_append] at hc
    rcases List.mem_append.mp hc with h1 | h1
    · exact h y (List.mem_cons_self ..) c h1
    · exact join_codes (fun x hx => h x (List.mem_cons_of_mem _ hx)) c h1
theorem r_text (c : Int) (T : Sto) : ∃ (z : Str) (G : Sto), m__law_text_by [.int c] T = .ok (.str z) (T ++ G) ∧ z.length ≤ 4 ∧ ∀ c ∈ z.cps.toList, c < 128 := by
  obtain ⟨m, hm, em⟩ : ∃ m : Nat, m ≤ 4 ∧ c % 5 = (m : Int) := ⟨(c % 5).toNat, by omega, by omega⟩
  have hs : small62 (m : Int) = true := small62_is (by omega)
  generalize hA1 : (" !\"#$&'()*+,-./0123456789:;<=>?@ABCDEFGHIJKLMNOPQRSTUVWXYZ[\\]^_`" : Str) = A1
  generalize hA2 : ("abcdefghijklmnopqrstuvwxyz{|}~" : Str) = A2
  have l1 : A1.length = 64 := by rw [← hA1]; decide +kernel
  have l2 : A2.length = 30 := by rw [← hA2]; decide +kernel
  have c1 : ∀ c ∈ A1.cps.toList, c < 128 := by rw [← hA1]; decide +kernel
  have c2 : ∀ c ∈ A2.cps.toList, c < 128 := by rw [← hA2]; decide +kernel
  have hAl : (A1 ++ A2).length = 94 := by rw [Str.length_append]; omega
  have hAc := app_codes c1 c2
  have hcat : A1.length + A2.length ≤ 16777216 := by omega
  have s2 : (sAsg 1 (mBin fAdd (mVar 1) (mC (.str A2)))) [some (.int c), some (.str A1), none] T = .fl (.nx [some (.int c), some (.str (A1 ++ A2)), none]) T := by simp [hcat]
  generalize hA : A1 ++ A2 = A at *
  obtain ⟨S', e1, ys, i1, i2, i3, i4⟩ := lc_inv (it := itR 0 m) (f := fName 2) (mt := mYes) (m := e1__law_text_by) (ρ := [some (.int c), some (.str A), none]) (n := T.length)
    (fun i S => ∃ ys : List Str, S = T ++ [.lst (ys.map D.str)] ∧ ys.length = i ∧ (∀ y ∈ ys, y.length = 1) ∧ ∀ y ∈ ys, ∀ c ∈ y.cps.toList, c < 128)
    (fun i S hi ⟨ys, q1, q2, q3, q4⟩ => by
      subst q1
      have hi' : i < m := hi
      have cm : cMul1 (i : Int) (c / 470 % 7) = true := cMul1_r (by omega)
      generalize hq : (c / 5 + (i : Int) * (c / 470 % 7)) % 94 = q
      have q0 : 0 ≤ q := by omega
      have q1 : q < 94 := by omega
      have hlt : q.toNat < A.cps.toList.length := by
        have : A.cps.toList.length = 94 := hAl
        omega
      have hat : atI A.cps.toList q = some (A.cps.toList[q.toNat]'hlt) := by
        rw [atI_at q0 (by have : A.cps.toList.length = 94 := hAl; omega), List.getElem?_eq_getElem hlt]
      have hx := hAc _ (List.getElem_mem hlt)
      generalize A.cps.toList[q.toNat]'hlt = x at *
      have hy : (ys.map D.str).length < 16777216 := by rw [List.length_map]; omega
      have hA16 : A.length ≤ 16777216 := by omega
      refine ⟨.int (i : Int), [some (.int c), some (.str A), some (.int (i : Int))], by show some (D.int (0 + (i : Int))) = _; rw [Int.zero_add], rfl, .inr ⟨T ++ [.lst (ys.map D.str)], .str ⟨#[x]⟩, T ++ [.lst (ys.map D.str)], ys.map D.str, rfl, by simp [e1__law_text_by, cm, hq, hat, hAl], by simp, hy, ys ++ [⟨#[x]⟩], by simp, by simp [q2], fun y hy => ?_, fun y hy => ?_⟩⟩
      · rcases List.mem_append.mp hy with h | h
        · exact q3 y h
        · rw [List.mem_singleton.mp h]
          rfl
      · rcases List.mem_append.mp hy with h | h
        · exact q4 y h
        · rw [List.mem_singleton.mp h]
          intro c hc
          rw [List.mem_singleton.mp (show c ∈ [_] from hc)]
          exact hx)
    (fun _ _ => rfl) (S := T ++ [.lst []]) ⟨[], rfl, rfl, by simp, by simp⟩
  subst i1
  have i2' : ys.length = m := i2
  have s3 : mLc (mRange1 (mBin fMod (mVar 0) (mC (.int 5)))) (fName 2) (mYes) e1__law_text_by [2] [some (.int c), some (.str A), none] T = .ok (.ref T.length) (T ++ [.lst (ys.map D.str)]) := by
    have hmi : mRange1 (mBin fMod (mVar 0) (mC (.int 5))) [some (.int c), some (.str A), none] T = .ok (itR 0 m) T := by simp [em, hs]
    unfold mLc
    rw [hmi]
    exact e1
  have hsum : (ys.map (·.length)).sum = ys.length := by
    clear e1 i2 i2' i4 s3
    induction ys with
    | nil => rfl
    | cons y ys ih =>
      rw [List.map_cons, List.sum_cons, ih fun z hz => i3 z (List.mem_cons_of_mem _ hz), i3 y (List.mem_cons_self ..), List.length_cons]
      omega
  have hj : joinD "" (.ref T.length) (T ++ [.lst (ys.map D.str)]) = some (.str (Txt.join "" ys), T ++ [.lst (ys.map D.str)]) := joinD_of (ds := ys.map D.str) (by simp) (strsD_map ys) (by
    rw [hsum, show ("" : Str).length = 0 from rfl]
    omega)
  refine ⟨Txt.join "" ys, [.lst (ys.map D.str)], ?_, by rw [PySem.W.KT.join_ones ys i3]; omega, join_codes i4⟩
  refine def_rt (ρ0 := [some (.int c), none, none]) (seq_nx (S' := T) (ρ' := [some (.int c), some (.str A1), none]) ?_ (seq_nx (S' := T) (ρ' := [some (.int c), some (.str A), none]) ?_ ?_))
  · rw [← hA1]
    rfl
  · rw [hA2]
    exact s2
  · generalize ys.map D.str = Y at *
    simp [s3, hj]
theorem r_stampby (c : Int) (T : Sto) : ∃ (d : D) (G : Sto), m__law_stamp_by [.int c] T = .ok d (T ++ G) ∧ Ent d := by
  have hk : c % 4 = 0 ∨ c % 4 = 1 ∨ ¬ (c % 4 = 0 ∨ c % 4 = 1) := by omega
  have cp : cPow 10 60 = true := by simp [cPow]
  rcases hk with h | h | h
  · obtain ⟨z, G, e, hz, hc⟩ := r_text (c / 4) T
    exact ⟨.str z, G, by simp [m__law_stamp_by, b__law_stamp_by, h, e], .inr ⟨z, rfl, by omega, hc⟩⟩
  · have m0 := Int.emod_nonneg (c / 4) (show big ≠ 0 by decide)
    have m1 := Int.emod_lt_of_pos (c / 4) (show (0 : Int) < big by decide)
    exact ⟨.int (c / 4 % big), [], by simp [m__law_stamp_by, b__law_stamp_by, h], .inl ⟨_, rfl, m0, m1⟩⟩
  · have h0 : ¬ c % 4 = 0 := fun z => h (.inl z)
    have h1 : ¬ c % 4 = 1 := fun z => h (.inr z)
    exact ⟨.int (c / 4 % 7), [], by simp [m__law_stamp_by, b__law_stamp_by, h0, h1], .inl ⟨_, rfl, by omega, Int.lt_trans (show c / 4 % 7 < 7 by omega) (by decide)⟩⟩
theorem cut_ints (ns : List Int) (lo hi : Option Int) : Eng.cutD (ns.map D.int) lo hi = (Eng.cutD ns lo hi).map D.int := by
  unfold Eng.cutD
  rw [List.length_map, List.map_take, List.map_drop]
theorem r_cell {T : Sto} (ns : List Int) (h : T[0]? = some (.rdl (ns.map D.int))) (i : Int) (h0 : 0 ≤ i) : ∃ c, m__law_cell_at [.ref 0, .int i] T = .ok (.int c) T := by
  have l : lstAt T 0 = some (ns.map D.int) := by
    unfold lstAt
    rw [h]
  by_cases hi : i < ns.length
  · have e : (ns.map D.int)[i.toNat]? = some (.int (ns[i.toNat]'(by omega))) := by
      rw [List.getElem?_map, List.getElem?_eq_getElem (by omega)]
      rfl
    refine ⟨ns[i.toNat]'(by omega), ?_⟩
    simp [m__law_cell_at, b__law_cell_at, h, l, hi, atI_at h0 (show i < (ns.map D.int).length by simpa using hi), e]
  · exact ⟨0, by simp [m__law_cell_at, b__law_cell_at, h, l, hi]⟩
theorem new_row {ρ : Env'} (T : Sto) (f : Nat) (h : ρ[1]? = some (some (.ref f))) : mNew "Row" m_Row___init__ (mCons (mVar 1) (mNil)) ρ T = .ok (.ref T.length) (T ++ [rowO f (T.length + 1), .lst []]) := by
  have hv : getV ρ 1 T = .ok (.ref f) T := by
    unfold getV
    rw [h]
  have i1 := r_init T f
  simp [hv, i1]
theorem r_top' {es : List D} {n : Nat} {T : Sto} {f L : Nat} {P : List D → Option D} (h1 : es.length ≤ 69) (st : Stm n T f P) (hn : n < 90000) (hL : T[L]? = some (.lst es)) (he : ∀ e ∈ es, Ent e) :
    ∃ T' d P', m_top_of [.ref f, .ref L] T = .ok d T' ∧ Stm (n + ak es.length) T' f P' ∧ Ext P P' ∧ Keep T T' ∧ Tp P' es d ∧ Sz (sw es.length) d :=
  r_top 69 es n T f L P h1 (by omega) st (by have := ak_le es.length; omega) hL he
theorem hf_le {n a : Nat} (h : 2 ≤ n) (hn : n ≤ 2 ^ (a + 1)) : hf n ≤ 2 ^ a := by
  obtain ⟨h1, h2, h3⟩ := hf_nat h
  unfold hf at h1 ⊢
  have : (n - 1).log2 ≤ a := by
    apply Nat.le_of_not_lt
    intro hk
    have := Nat.pow_le_pow_right (n := 2) (by decide) hk
    have e3 : a.succ = a + 1 := rfl
    rw [e3] at this
    omega
  exact Nat.pow_le_pow_right (by decide) this
theorem csh60 : cShl 1 60 = true := by
  have e : Nat.log2 1 = 0 := by decide +kernel
  simp [cShl, Builtin.Int.intBits, e]
/-! papers of places -/

def RMk (P : List D → Option D) (es : List D) (c : Nat) (d : D) : Prop := ∃ top, Tp P (es.take c) top ∧ P [.str "row", .int (c : Int), top] = some d
theorem RMk.ext {P Q : List D → Option D} {es : List D} {c : Nat} {d : D} (h : RMk P es c d) (x : Ext P Q) : RMk Q es c d := by
  obtain ⟨top, h1, h2⟩ := h
  exact ⟨top, h1.ext x, x _ _ h2⟩
theorem RMk.det {P : List D → Option D} {es : List D} {c : Nat} {d d' : D} (h : RMk P es c d) (h' : RMk P es c d') : d = d' := by
  obtain ⟨top, h1, h2⟩ := h
  obtain ⟨top', h3, h4⟩ := h'
  rw [h1.det h3, h4] at h2
  exact (Option.some.inj h2).symm
theorem r_mark {n : Nat} {T : Sto} {r f E : Nat} {P : List D → Option D} {es : List D} (h : Rw T r f E es) (st : Stm n T f P) (hn : n < 90000) {c : Nat} (hc : c ≤ es.length) (hl : es.length ≤ 60) (he : ∀ e ∈ es, Ent e) :
    ∃ T' d P', m_Row_mark_at [.ref r, .int (c : Int)] T = .ok d T' ∧ Stm (n + 300) T' f P' ∧ Ext P P' ∧ Keep T T' ∧ RMk P' es c d ∧ Pt d := by
  have h1 := r_first h hc (by omega)
  have lt : (es.take c).length = c := by rw [List.length_take]; omega
  have kk := ak_le c
  obtain ⟨T1, top, P1, a1, a2, a3, a4, a5, a6⟩ := r_top 69 (es.take c) n (T ++ [.lst (es.take c)]) f T.length P (by omega) (by omega) st.more (by rw [lt]; omega) (by simp) fun e hm => he e (List.mem_of_mem_take hm)
  rw [lt] at a2 a6
  have sz : Sz 30000 top := a6.up (sw_le c (by omega)).2
  obtain ⟨T2, d, P2, b1, b2, b3, b4, b5, b6⟩ := ask a2 (by omega) (gt3 sz_row (pt_count (c := c) (by omega)) (sz.up (by decide)))
  have rw1 := (h.keep Keep.app).keep a4
  have f1 := fld_st h
  have f2 := fld_st rw1
  have dr := disp_row (m := "first") (g := m_Row_first) h (by decide +kernel) (by decide +kernel)
  have hfn := a2.fn
  refine ⟨T2, d, P2, ?_, b2.up (by omega), a3.trans b4, (Keep.app.trans a4).trans b5, ⟨top, a5.ext b4, b3⟩, An.row (by omega) sz b6⟩
  have a1' : m_top_of [.ref f, .ref T.length] (T ++ [.lst (es.take c)]) = .ok top T1 := a1
  simp [-fldD_ref, -disp_ref, m_Row_mark_at, b_Row_mark_at, f1, dr, h1, a1', f2, hfn, b1]
/-! papers of growth of a row -/
inductive Gr (P : List D → Option D) : List D → Nat → List D → Prop
  | nil {el : Nat} : Gr P [] el []
  | whole {es : List D} {el : Nat} {d : D} : 1 ≤ es.length → (el = 0 ∨ el = es.length) → Tp P es d → Sz (sw es.length) d → Gr P es el [d]
  | left {es : List D} {el : Nat} {ms : List D} {d : D} : 0 < el → el < es.length → el ≤ hf es.length → Gr P (es.take (hf es.length)) el ms → Tp P (es.drop (hf es.length)) d → Sz (sw (es.length - hf es.length)) d → Gr P es el (ms ++ [d])
  | right {es : List D} {el : Nat} {ms : List D} {d : D} : el < es.length → hf es.length < el → Tp P (es.take (hf es.length)) d → Sz (sw (hf es.length)) d → Gr P (es.drop (hf es.length)) (el - hf es.length) ms → Gr P es el (d :: ms)
theorem Gr.ext {P Q : List D → Option D} {es ms : List D} {el : Nat} (h : Gr P es el ms) (x : Ext P Q) : Gr Q es el ms := by
  induction h with
  | nil => exact .nil
  | whole h1 h2 h3 h4 => exact .whole h1 h2 (h3.ext x) h4
  | left h1 h2 h3 _ h5 h6 ih => exact .left h1 h2 h3 ih (h5.ext x) h6
  | right h1 h2 h3 h4 _ ih => exact .right h1 h2 (h3.ext x) h4 ih
theorem Gr.pt {P : List D → Option D} {es ms : List D} {el : Nat} (h : Gr P es el ms) : es.length ≤ 100 → ∀ d ∈ ms, Pt d := by
  induction h with
  | nil => intro _ d hd; cases hd
  | whole h1 h2 h3 h4 =>
    intro hl d hd
    rw [List.mem_singleton.mp hd]
    exact h4.up (by have := (sw_le _ hl).2; omega)
  | @left es el ms d h1 h2 h3 h4 h5 h6 ih =>
    intro hl x hx
    rcases List.mem_append.mp hx with hx | hx
    · exact ih (by rw [List.length_take]; omega) x hx
    · rw [List.mem_singleton.mp hx]
      exact h6.up (by have := (sw_le (es.length - hf es.length) (by omega)).2; omega)
  | @right es el ms d h1 h2 h3 h4 h5 ih =>
    intro hl x hx
    rcases List.mem_cons.mp hx with rfl | hx
    · exact h4.up (by have := (sw_le (hf es.length) (by omega)).2; omega)
    · exact ih (by rw [List.length_drop]; omega) x hx
theorem Gr.le {P : List D → Option D} {es ms : List D} {el : Nat} (h : Gr P es el ms) : ms.length ≤ es.length := by
  induction h with
  | nil => exact Nat.le_refl _
  | whole h1 h2 h3 h4 => simpa using h1
  | @left es el ms d h1 h2 h3 h4 h5 h6 ih =>
    obtain ⟨f1, f2, f3⟩ := hf_nat (n := es.length) (by omega)
    rw [List.length_take] at ih
    rw [List.length_append, List.length_singleton]
    omega
  | @right es el ms d h1 h2 h3 h4 h5 ih =>
    obtain ⟨f1, f2, f3⟩ := hf_nat (n := es.length) (by omega)
    rw [List.length_drop] at ih
    rw [List.length_cons]
    omega
theorem g_grown : ∀ (k : Nat) (es : List D) (el n : Nat) (T : Sto) (f L : Nat) (P : List D → Option D), es.length ≤ k → es.length ≤ 60 → el ≤ es.length → Stm n T f P → n + 2 * es.length < 80000 → T[L]? = some (.lst es) → (∀ e ∈ es, Ent e) →
    ∃ T' p ms P', r_grown (k + 1) [.ref f, .ref L, .int (el : Int)] T = .ok (.ref p) T' ∧ T'[p]? = some (.lst ms) ∧ Stm (n + 2 * es.length) T' f P' ∧ Ext P P' ∧ Keep T T' ∧ Gr P' es el ms := by
  intro k
  induction k with
  | zero =>
    intro es el n T f L P hk h1 hel st hn hL he
    have e0 : es = [] := List.eq_nil_of_length_eq_zero (by omega)
    subst e0
    have lL := lst_of hL
    exact ⟨T ++ [.lst []], T.length, [], P, by simp [r_grown, b_grown, lL, hL], by simp, st.more, Ext.refl, Keep.app, .nil⟩
  | succ k ih =>
    intro es el n T f L P hk h1 hel st hn hL he
    have lL := lst_of hL
    have l16 : es.length ≤ 16777216 := by omega
    by_cases h0 : es.length = 0
    · have e0 : es = [] := List.eq_nil_of_length_eq_zero h0
      subst e0
      exact ⟨T ++ [.lst []], T.length, [], P, by simp [r_grown, b_grown, lL, hL], by simp, st.more, Ext.refl, Keep.app, .nil⟩
    have kk := ak_pos (m := es.length) (by omega)
    have n0 : ¬ (es.length : Int) = 0 := by omega
    by_cases hw : el = 0 ∨ el = es.length
    · obtain ⟨T1, d, P1, a1, a2, a3, a4, a5, a6⟩ := r_top' (by omega) st (by omega) hL he
      refine ⟨T1 ++ [.lst [d]], T1.length, [d], P1, ?_, by simp, (a2.up (by omega)).more, a3, a4.trans Keep.app, .whole (by omega) hw a5 a6⟩
      unfold r_grown
      refine def_rt (ρ0 := [some (.ref f), some (.ref L), some (.int (el : Int)), none, none, none]) ?_
      unfold b_grown
      generalize hm : es.length = m at *
      have hE : es ≠ [] := fun z => by
        rw [z] at hm
        simp at hm
        omega
      rcases hw with rfl | rfl
      · simp [lL, hL, hm, l16, n0, h0, hE, a1]
      · simp [lL, hL, hm, l16, n0, h0, hE, a1]
    · have hw1 : ¬ el = 0 := fun z => hw (.inl z)
      have hw2 : ¬ el = es.length := fun z => hw (.inr z)
      obtain ⟨f1, f2, f3⟩ := hf_nat (n := es.length) (by omega)
      have rh := r_half (n := es.length) (by omega) (by omega)
      have ct := lst_take (es := es) (c := hf es.length) (by omega)
      have cd := lst_drop (es := es) (c := hf es.length) (by omega)
      have l1 : (es.take (hf es.length)).length = hf es.length := by rw [List.length_take, Nat.min_eq_left (by omega)]
      have l2 : (es.drop (hf es.length)).length = es.length - hf es.length := List.length_drop
      have het : ∀ e ∈ es.take (hf es.length), Ent e := fun e hm => he e (List.mem_of_mem_take hm)
      have hed : ∀ e ∈ es.drop (hf es.length), Ent e := fun e hm => he e (List.mem_of_mem_drop hm)
      have k1 := ak_pos (m := hf es.length) (by omega)
      have k2 := ak_pos (m := es.length - hf es.length) (by omega)
      by_cases hle : el ≤ hf es.length
      · obtain ⟨T1, p, ms, P1, a1, a2, a3, a4, a5, a6⟩ := ih (es.take (hf es.length)) el n (T ++ [.lst (es.take (hf es.length))]) f T.length P (by omega) (by omega) (by omega) st.more (by omega) (by simp) het
        have hL1 : T1[L]? = some (.lst es) := a5 _ _ (at_more hL) (by simp)
        rw [l1] at a3
        obtain ⟨T2, d, P2, b1, b2, b3, b4, b5, b6⟩ := r_top' (T := T1 ++ [.lst (es.drop (hf es.length))]) (L := T1.length) (es := es.drop (hf es.length)) (by omega) a3.more (by omega) (by simp) hed
        rw [l2] at b2 b6
        have hms : T2[p]? = some (.lst ms) := b4 _ _ (at_more a2) (by simp)
        have lL1 := lst_of hL1
        have gr := Gr.left (by omega) (by omega) hle (a6.ext b3) b5 b6
        have hle2 := gr.le
        rw [List.length_append, List.length_singleton] at hle2
        refine ⟨T2 ++ [.lst [d], .lst (ms ++ [d])], T2.length + 1, ms ++ [d], P2, ?_, by simp, (b2.up (by omega)).more, a4.trans b3, ((Keep.app.trans a5).trans (Keep.app.trans b4)).trans Keep.app, gr⟩
        have hmsz : ms.length + 1 ≤ 16777216 := by omega
        have hi : (el : Int) ≤ (hf es.length : Int) := by omega
        unfold r_grown
        refine def_rt (ρ0 := [some (.ref f), some (.ref L), some (.int (el : Int)), none, none, none]) ?_
        unfold b_grown
        have hms1 : (T2 ++ [Ob.lst [d]])[p]? = some (.lst ms) := at_more hms
        have i1 : ¬ (el : Int) = 0 := by omega
        have i2 : ¬ (el : Int) = (es.length : Int) := by omega
        generalize hw : hf es.length = w at *
        generalize es.take w = E1 at *
        generalize es.drop w = E2 at *
        generalize hm : es.length = m at *
        simp [lL, hL, hm, l16, n0, h0, i1, i2, hw1, hw2, rh, hle, hi, ct, a1, lL1, hL1, cd, b1, hms1, hmsz]
      · have hgt : hf es.length < el := by omega
        obtain ⟨T1, d, P1, a1, a2, a3, a4, a5, a6⟩ := r_top' (T := T ++ [.lst (es.take (hf es.length))]) (L := T.length) (es := es.take (hf es.length)) (by omega) st.more (by omega) (by simp) het
        have hL1 : T1[L]? = some (.lst es) := a4 _ _ (at_more hL) (by simp)
        rw [l1] at a2 a6
        obtain ⟨T2, p, ms, P2, b1, b2, b3, b4, b5, b6⟩ := ih (es.drop (hf es.length)) (el - hf es.length) (n + ak (hf es.length)) (T1 ++ [.lst [d], .lst (es.drop (hf es.length))]) f (T1.length + 1) P1 (by omega) (by omega) (by omega) a2.more (by omega) (by simp) hed
        rw [l2] at b3
        have hd1 : T2[T1.length]? = some (.lst [d]) := b5 _ _ (by simp) (by simp)
        have hL1' : (T1 ++ [Ob.lst [d]])[L]? = some (.lst es) := at_more hL1
        have lL1 := lst_of hL1'
        have gr := Gr.right (by omega) hgt (a5.ext b4) a6 b6
        have hle2 := gr.le
        rw [List.length_cons] at hle2
        refine ⟨T2 ++ [.lst (d :: ms)], T2.length, d :: ms, P2, ?_, by simp, (b3.up (by omega)).more, a3.trans b4, ((Keep.app.trans a4).trans (Keep.app.trans b5)).trans Keep.app, gr⟩
        have hmsz : 1 + ms.length ≤ 16777216 := by omega
        have hmsz' : ms.length + 1 ≤ 16777216 := by omega
        have hi : ¬ (el : Int) ≤ (hf es.length : Int) := by omega
        have i1 : ¬ (el : Int) = 0 := by omega
        have i2 : ¬ (el : Int) = (es.length : Int) := by omega
        have hsub : (el : Int) - (hf es.length : Int) = ((el - hf es.length : Nat) : Int) := by omega
        unfold r_grown
        refine def_rt (ρ0 := [some (.ref f), some (.ref L), some (.int (el : Int)), none, none, none]) ?_
        unfold b_grown
        generalize hw : hf es.length = w at *
        generalize es.take w = E1 at *
        generalize es.drop w = E2 at *
        generalize hm : es.length = m at *
        simp [lL, hL, hm, l16, n0, h0, i1, i2, hw1, hw2, rh, hle, hi, ct, a1, lL1, hL1', cd, hsub, b1, b2, hd1, hmsz, hmsz']
theorem r_paper {n : Nat} {T : Sto} {r f E : Nat} {P : List D → Option D} {es : List D} (h : Rw T r f E es) (st : Stm n T f P) (hn : n < 70000) {c el : Nat} (hc : c ≤ es.length) (hel : el ≤ c) (hl : es.length ≤ 60) (he : ∀ e ∈ es, Ent e) :
    ∃ T' ms P', m_Row_growth_paper [.ref r, .int (c : Int), .int (el : Int)] T = .ok (.tup ms) T' ∧ Stm (n + 200) T' f P' ∧ Ext P P' ∧ Keep T T' ∧ Gr P' (es.take c) el ms := by
  have h1 := r_first h hc (by omega)
  have lt : (es.take c).length = c := by rw [List.length_take]; omega
  obtain ⟨T1, p, ms, P1, a1, a2, a3, a4, a5, a6⟩ := g_grown 69 (es.take c) el n (T ++ [.lst (es.take c)]) f T.length P (by omega) (by omega) (by omega) st.more (by omega) (by simp) fun e hm => he e (List.mem_of_mem_take hm)
  have f1 := fld_st (h.keep (Keep.app (G := [.lst (es.take c)])))
  have dr := disp_row (m := "first") (g := m_Row_first) h (by decide +kernel) (by decide +kernel)
  have rb := r_below (c := el) (m := c + 1) (by omega) (T ++ [.lst (es.take c)])
  have rb' : m_is_below [.int (el : Int), .int ((c : Int) + 1)] (T ++ [.lst (es.take c)]) = .ok (.bl true) (T ++ [.lst (es.take c)]) := rb
  have lp := lst_of a2
  have a1' : m_grown [.ref f, .ref T.length, .int (el : Int)] (T ++ [.lst (es.take c)]) = .ok (.ref p) T1 := a1
  refine ⟨T1, ms, P1, def_rt (ρ0 := [some (.ref r), some (.int (c : Int)), some (.int (el : Int)), none]) (seq_nx (S' := T ++ [Ob.lst (es.take c)]) (asg_of' (d := .ref T.length) (by simp [-disp_ref, dr, h1])) (seq_nx (S' := T ++ [Ob.lst (es.take c)]) (ρ' := [some (.ref r), some (.int (c : Int)), some (.int (el : Int)), some (.ref T.length)]) (by simp [rb']) ?_)), a3.up (by omega), a4, Keep.app.trans a5, a6⟩
  simp [-fldD_ref, f1, a1', lp]

theorem r_halfB {n : Nat} (h : 2 ≤ n) (h2 : n ≤ 1152921504606846976) (S : Sto) : m_half [.int (n : Int)] S = .ok (.int (hf n : Int)) S := by
  have e : ((n : Int) - 1).natAbs = n - 1 := by omega
  have hb : Builtin.Int.intBits ((n : Int) - 1) = (n - 1).log2 + 1 := by
    rw [bits_of (by omega), e]
  have hl : (n - 1).log2 < 62 := (Nat.log2_lt (by omega)).mpr (by omega)
  have hl2 : ((n - 1).log2 : Int) ≤ 134217727 := by omega
  simp [m_half, b_half, hb, hl2, hf]

theorem r_ismarks {ms : List D} (h : ∀ d ∈ ms, Pt d) (hl : ms.length ≤ 1000) (T : Sto) : m_is_marks [.tup ms, .int (ms.length : Int)] T = .ok (.bl true) T := by
  obtain ⟨ρ', S', e1, o2, q1, q2⟩ := for_inv (it := itT ms) (f := fName 2) (b := l1_is_marks)
    (fun i ρ S => ∃ o2 : Option D, ρ = [some (.tup ms), some (.int (ms.length : Int)), o2] ∧ S = T)
    (fun i ρ S hi ⟨o2, q1, q2⟩ => by
      subst q1 q2
      have hi' : i < ms.length := hi
      have hd : ms[i]? = some ms[i] := List.getElem?_eq_getElem hi'
      have hp := r_stamp (h ms[i] (List.getElem_mem _)) S
      generalize ms[i] = d at *
      exact ⟨d, [some (.tup ms), some (.int (ms.length : Int)), some d], [some (.tup ms), some (.int (ms.length : Int)), some d], S, hd, rfl, by simp [l1_is_marks, hp], some d, rfl, rfl⟩)
    (fun _ _ _ => rfl) (ρ := [some (.tup ms), some (.int (ms.length : Int)), none]) (S := T) ⟨none, rfl, rfl⟩
  subst q1 q2
  have h16 : ms.length ≤ 16777216 := by omega
  exact def_rt (ρ0 := [some (.tup ms), some (.int (ms.length : Int)), none]) (seq_nx (S' := S') (ρ' := [some (.tup ms), some (.int (ms.length : Int)), none]) (by simp [h16]) (seq_nx (for_of (it := itT ms) (S1 := S') (by simp) e1) (by simp)))

theorem row_gt {c : Nat} {top : D} (hc : c < 1152921504606846976) (h : Sz 60000 top) : Gt [.str "row", .int (c : Int), top] := gt3 sz_row ((sz_int (by omega) (Int.lt_trans (show (c : Int) < 1152921504606846976 by omega) (by decide))).up (by decide)) (h.up (by decide))
theorem An.rowB {c : Nat} {top d : D} (hc : c < 1152921504606846976) (ht : Sz 60000 top) (h : An [.str "row", .int (c : Int), top] d) : Sz 70000 d := by
  have hi : Sz 61 (.int (c : Int)) := sz_int (by omega) (Int.lt_trans (show (c : Int) < 1152921504606846976 by omega) (by decide))
  refine ((h.sz (b := 60200) (row_gt hc ht).2.2.2 ?_).up (by decide))
  have := wr3 sz_row hi ht (by decide) (by decide) (by decide) (by decide)
  omega

/-! what is none of it -/
/-- no whole number -/
def Nw (d : D) (T : Sto) : Prop := d = .non ∨ (∃ b, d = .bl b) ∨ (∃ z, d = .str z) ∨ (∃ xs, d = .tup xs) ∨ ∃ r, d = .ref r ∧ ((∃ xs, T[r]? = some (.lst xs)) ∨ ∃ kvs, T[r]? = some (.dk kvs))
theorem Nw.keep {d : D} {T U : Sto} (h : Nw d T) (k : Keep T U) : Nw d U := by
  rcases h with h | h | h | h | ⟨r, h1, ⟨xs, h2⟩ | ⟨kvs, h2⟩⟩
  · exact .inl h
  · exact .inr (.inl h)
  · exact .inr (.inr (.inl h))
  · exact .inr (.inr (.inr (.inl h)))
  · exact .inr (.inr (.inr (.inr ⟨r, h1, .inl ⟨xs, k _ _ h2 (by simp)⟩⟩)))
  · exact .inr (.inr (.inr (.inr ⟨r, h1, .inr ⟨kvs, k _ _ h2 (by simp)⟩⟩)))
theorem r_nowhole {d : D} {T : Sto} (h : Nw d T) : m_is_whole [d] T = .ok (.bl false) T := by
  rcases h with rfl | ⟨b, rfl⟩ | ⟨z, rfl⟩ | ⟨xs, rfl⟩ | ⟨r, rfl, ⟨xs, h⟩ | ⟨kvs, h⟩⟩
  · simp [m_is_whole, b_is_whole]
  · simp [m_is_whole, b_is_whole]
  · simp [m_is_whole, b_is_whole]
  · simp [m_is_whole, b_is_whole]
  · simp [m_is_whole, b_is_whole, h, lst_of h]
  · have l : lstAt T r = none := by unfold lstAt; rw [h]
    simp [m_is_whole, b_is_whole, h, l]
/-- a thing that is asked for its place: a whole number or none -/
def Pv (d : D) (T : Sto) : Prop := (∃ i, d = .int i) ∨ Nw d T
theorem Pv.keep {d : D} {T U : Sto} (h : Pv d T) (k : Keep T U) : Pv d U := h.imp id fun z => z.keep k
def blw (d : D) (m : Int) : Bool := match d with
  | .int i => decide (0 ≤ i ∧ i < m)
  | _ => false
theorem r_belowG {d : D} {T : Sto} (h : Pv d T) (m : Int) : m_is_below [d, .int m] T = .ok (.bl (blw d m)) T := by
  rcases h with ⟨i, rfl⟩ | h
  · by_cases h0 : 0 ≤ i <;> by_cases h1 : i < m <;> simp [m_is_below, b_is_below, m_is_whole, b_is_whole, blw, h0, h1]
  · have e := r_nowhole h
    have hb : blw d m = false := by
      rcases h with rfl | ⟨b, rfl⟩ | ⟨z, rfl⟩ | ⟨xs, rfl⟩ | ⟨r, rfl, _⟩ <;> rfl
    rw [hb]
    simp [m_is_below, b_is_below, e]
/-- no stamp -/
def Js (d : D) (T : Sto) : Prop := (∃ i, d = .int i ∧ (i < 0 ∨ big ≤ i)) ∨ (Nw d T ∧ ∀ z, d ≠ .str z)
theorem Js.keep {d : D} {T U : Sto} (h : Js d T) (k : Keep T U) : Js d U := h.imp id fun ⟨z, y⟩ => ⟨z.keep k, y⟩
theorem r_nostamp {d : D} {T : Sto} (h : Js d T) : m_is_stamp [d] T = .ok (.bl false) T := by
  rcases h with ⟨i, rfl, hi⟩ | ⟨h, hz⟩
  · rw [s_stamp (d := .int i) True.intro]
    rcases hi with hi | hi
    · have : ¬ 0 ≤ i := by omega
      simp [stampB, this]
    · have : ¬ i < big := by omega
      simp [stampB, this]
  · have e := r_nowhole h
    rcases h with rfl | ⟨b, rfl⟩ | ⟨z, rfl⟩ | ⟨xs, rfl⟩ | ⟨r, rfl, ⟨xs, h⟩ | ⟨kvs, h⟩⟩
    · simp [m_is_stamp, b_is_stamp, e]
    · simp [m_is_stamp, b_is_stamp, e]
    · exact absurd rfl (hz z)
    · simp [m_is_stamp, b_is_stamp, e]
    · simp [m_is_stamp, b_is_stamp, e, h, lst_of h]
    · have l : lstAt T r = none := by unfold lstAt; rw [h]
      simp [m_is_stamp, b_is_stamp, e, h, l]
theorem p60 : (10 : Int) ^ (60 : Nat) = big := by decide +kernel
theorem p30 : (10 : Int) ^ (30 : Nat) = 1000000000000000000000000000000 := by decide +kernel
theorem mod9 (c : Int) : c % 9 = 0 ∨ c % 9 = 1 ∨ c % 9 = 2 ∨ c % 9 = 3 ∨ c % 9 = 4 ∨ c % 9 = 5 ∨ c % 9 = 6 ∨ c % 9 = 7 ∨ c % 9 = 8 := by omega
theorem pick {U : Sto} {L : Nat} {xs : List D} (h : U[L]? = some (.lst xs)) (i : Int) {d : D} (e : atI xs i = some d) : fItem (.ref L) (.int i) U = some (d, U) := by
  have l := lst_of h
  simp [h, l, e]
theorem r_nost (c : Int) (T : Sto) : ∃ d G, m__law_no_stamp [.int c] T = .ok d (T ++ G) ∧ Js d (T ++ G) ∧ ∀ xs, d = .tup xs → xs.length = 1 := by
  have k60 : fPow (.int 10) (.int 60) T = some (.int big, T) := by simp [p60]
  generalize hn : c / 9 % 1000000000000000000000000000000 = n
  have n0 : 0 ≤ n := by omega
  have v1 : (sAsg 1 (mBin fMod (mBin fDiv (mVar 0) (mC (.int 9))) (mBin fPow (mC (.int 10)) (mC (.int 30))))) [some (.int c), none, none] T = .fl (.nx [some (.int c), some (.int n), none]) T := asg_of' (d := .int n) (by simp [p30, hn])
  have v2 : (sAsg 2 (mLst (mCons (mC .non) (mCons (mC (.bl true)) (mCons (mC (.bl false)) (mCons (mBin fSub (mUn fNeg (mC (.int 1))) (mVar 1)) (mCons (mBin fAdd (mBin fPow (mC (.int 10)) (mC (.int 60))) (mVar 1)) (mCons (mTup (mCons (mVar 1) (mNil))) (mCons (mLst (mCons (mVar 1) (mNil))) (mCons (mDk) (mCons (mTup (mCons (mC (.str "a")) (mNil))) (mNil)))))))))))) [some (.int c), some (.int n), none] T =
      .fl (.nx [some (.int c), some (.int n), some (.ref (T.length + 2))]) (T ++ [.lst [.int n], .dk [], .lst [.non, .bl true, .bl false, .int (-1 - n), .int (big + n), .tup [.int n], .ref T.length, .ref (T.length + 1), .tup [.str "a"]]]) := asg_of' (d := .ref (T.length + 2)) (by simp [p60])
  have hL : (T ++ [Ob.lst [.int n], .dk [], .lst [.non, .bl true, .bl false, .int (-1 - n), .int (big + n), .tup [.int n], .ref T.length, .ref (T.length + 1), .tup [.str "a"]]])[T.length + 2]? = some (.lst [.non, .bl true, .bl false, .int (-1 - n), .int (big + n), .tup [.int n], .ref T.length, .ref (T.length + 1), .tup [.str "a"]]) := by simp
  have h1 : (T ++ [Ob.lst [.int n], .dk [], .lst [.non, .bl true, .bl false, .int (-1 - n), .int (big + n), .tup [.int n], .ref T.length, .ref (T.length + 1), .tup [.str "a"]]])[T.length]? = some (.lst [.int n]) := by simp
  have h2 : (T ++ [Ob.lst [.int n], .dk [], .lst [.non, .bl true, .bl false, .int (-1 - n), .int (big + n), .tup [.int n], .ref T.length, .ref (T.length + 1), .tup [.str "a"]]])[T.length + 1]? = some (.dk []) := by simp
  generalize hG : ([Ob.lst [.int n], .dk [], .lst [.non, .bl true, .bl false, .int (-1 - n), .int (big + n), .tup [.int n], .ref T.length, .ref (T.length + 1), .tup [.str "a"]]] : Sto) = G at *
  have fin : ∀ {d : D} {i : Int}, c % 9 = i → atI [D.non, .bl true, .bl false, .int (-1 - n), .int (big + n), .tup [.int n], .ref T.length, .ref (T.length + 1), .tup [.str "a"]] i = some d → m__law_no_stamp [.int c] T = .ok d (T ++ G) := fun {d i} hi e =>
    def_rt (ρ0 := [some (.int c), none, none]) (seq_nx v1 (seq_nx v2 (by
      have := pick hL i e
      generalize T ++ G = U at *
      simp only [ev_ret, ev_bin, ev_var, ev_c, getV_zero, getV_succ, R.bind_ok, fMod_ev]
      simp [hi, -fItem_ref, this])))
  rcases mod9 c with h | h | h | h | h | h | h | h | h
  · exact ⟨.non, G, fin h rfl, .inr ⟨.inl rfl, by simp⟩, fun xs hx => by cases hx; try rfl⟩
  · exact ⟨.bl true, G, fin h rfl, .inr ⟨.inr (.inl ⟨_, rfl⟩), by simp⟩, fun xs hx => by cases hx; try rfl⟩
  · exact ⟨.bl false, G, fin h rfl, .inr ⟨.inr (.inl ⟨_, rfl⟩), by simp⟩, fun xs hx => by cases hx; try rfl⟩
  · exact ⟨.int (-1 - n), G, fin h rfl, .inl ⟨_, rfl, .inl (by omega)⟩, fun xs hx => by cases hx; try rfl⟩
  · exact ⟨.int (big + n), G, fin h rfl, .inl ⟨_, rfl, .inr (by omega)⟩, fun xs hx => by cases hx; try rfl⟩
  · exact ⟨.tup [.int n], G, fin h rfl, .inr ⟨.inr (.inr (.inr (.inl ⟨_, rfl⟩))), by simp⟩, fun xs hx => by cases hx; try rfl⟩
  · exact ⟨.ref T.length, G, fin h rfl, .inr ⟨.inr (.inr (.inr (.inr ⟨_, rfl, .inl ⟨_, h1⟩⟩))), by simp⟩, fun xs hx => by cases hx; try rfl⟩
  · exact ⟨.ref (T.length + 1), G, fin h rfl, .inr ⟨.inr (.inr (.inr (.inr ⟨_, rfl, .inr ⟨_, h2⟩⟩))), by simp⟩, fun xs hx => by cases hx; try rfl⟩
  · exact ⟨.tup [.str "a"], G, fin h rfl, .inr ⟨.inr (.inr (.inr (.inl ⟨_, rfl⟩))), by simp⟩, fun xs hx => by cases hx; try rfl⟩

theorem r_marksB {ms : List D} {k : Nat} {T : Sto} (hk : k < ms.length) (h : ∀ (j : Nat) (d : D), j < k → ms[j]? = some d → Pt d) {z : D} (hz : ms[k]? = some z) (hj : Js z T) (hl : ms.length ≤ 1000) : m_is_marks [.tup ms, .int (ms.length : Int)] T = .ok (.bl false) T := by
  have h16 : ms.length ≤ 16777216 := by omega
  rcases for_inv' (it := itT ms) (f := fName 2) (b := l1_is_marks)
    (fun i ρ S => i ≤ k ∧ (∃ o2 : Option D, ρ = [some (.tup ms), some (.int (ms.length : Int)), o2]) ∧ S = T)
    (fun r => r = .fl (.rt (.bl false)) T)
    (fun i ρ S hi ⟨q0, ⟨o2, q1⟩, q2⟩ => by
      subst q1 q2
      have hi' : i < ms.length := hi
      have hd : ms[i]? = some ms[i] := List.getElem?_eq_getElem hi'
      refine ⟨ms[i], [some (.tup ms), some (.int (ms.length : Int)), some ms[i]], hd, rfl, ?_⟩
      by_cases e : i = k
      · subst e
        rw [hd] at hz
        cases hz
        have := r_nostamp hj
        generalize ms[i] = d at *
        have eb : l1_is_marks [some (.tup ms), some (.int (ms.length : Int)), some d] S = .fl (.rt (.bl false)) S := by simp [l1_is_marks, this]
        exact .inr ⟨.inl ⟨_, _, eb⟩, eb⟩
      · have hp := r_stamp (h i _ (by omega) hd) S
        generalize ms[i] = d at *
        exact .inl ⟨[some (.tup ms), some (.int (ms.length : Int)), some d], S, by simp [l1_is_marks, hp], by omega, ⟨some d, rfl⟩, rfl⟩)
    (fun _ _ _ => rfl) (ρ := [some (.tup ms), some (.int (ms.length : Int)), none]) (S := T) ⟨Nat.zero_le _, ⟨none, rfl⟩, rfl⟩ with ⟨ρ', S', e1, q0, _⟩ | ⟨_, e1⟩
  · have : (itT ms).cnt = ms.length := rfl
    omega
  · exact def_rt (ρ0 := [some (.tup ms), some (.int (ms.length : Int)), none]) (seq_nx (S' := T) (ρ' := [some (.tup ms), some (.int (ms.length : Int)), none]) (by simp [h16]) (seq_rt (for_of (it := itT ms) (S1 := T) (by simp) e1)))
theorem r_marksL {ms : List D} {n : Nat} (hn : ms.length ≠ n) (hl : ms.length ≤ 1000) (T : Sto) : m_is_marks [.tup ms, .int (n : Int)] T = .ok (.bl false) T := by
  have h16 : ms.length ≤ 16777216 := by omega
  have hn' : ¬ (ms.length : Int) = (n : Int) := by omega
  exact def_rt (ρ0 := [some (.tup ms), some (.int (n : Int)), none]) (seq_rt (by simp [hn, hn']))
theorem r_marksR {r n : Nat} {xs : List D} {T : Sto} (h : T[r]? = some (.lst xs)) : m_is_marks [.ref r, .int (n : Int)] T = .ok (.bl false) T := by
  have l := lst_of h
  exact def_rt (ρ0 := [some (.ref r), some (.int (n : Int)), none]) (seq_rt (by simp [h, l]))
/-! heads -/
def Jh (d : D) (T : Sto) : Prop := ∀ U, Keep T U → m_is_head [d] U = .ok (.bl false) U
theorem Jh.keep {d : D} {T U : Sto} (h : Jh d T) (k : Keep T U) : Jh d U := fun V kv => h V (k.trans kv)
theorem jh_non {T : Sto} : Jh .non T := fun U _ => by simp [m_is_head, b_is_head]
theorem jh_int {i : Int} {T : Sto} : Jh (.int i) T := fun U _ => by simp [m_is_head, b_is_head]
theorem jh_str {z : Str} {T : Sto} : Jh (.str z) T := fun U _ => by simp [m_is_head, b_is_head]
theorem jh_lst {r : Nat} {xs : List D} {T : Sto} (h : T[r]? = some (.lst xs)) : Jh (.ref r) T := fun U k => by
  have h' := k _ _ h (by simp)
  have l := lst_of h'
  simp [m_is_head, b_is_head, h', l]
theorem jh_dk {r : Nat} {xs : List (Key × D)} {T : Sto} (h : T[r]? = some (.dk xs)) : Jh (.ref r) T := fun U k => by
  have h' := k _ _ h (by simp)
  have l : lstAt U r = none := by unfold lstAt; rw [h']
  simp [m_is_head, b_is_head, h', l]
theorem jh_len {xs : List D} {T : Sto} (h : xs.length ≠ 2) (hl : xs.length ≤ 10) : Jh (.tup xs) T := fun U _ => by
  have h1 : ¬ (xs.length : Int) = 2 := by omega
  have h2 : xs.length ≤ 16777216 := by omega
  simp [m_is_head, b_is_head, h, h1, h2]
theorem jh_count {d e : D} {T : Sto} (h : Pv d T) (hb : blw d 1152921504606846976 = false) : Jh (.tup [d, e]) T := fun U k => by
  have rb := r_belowG (h.keep k) 1152921504606846976
  rw [hb] at rb
  have i0 : atI [d, e] 0 = some d := rfl
  have csh := csh60
  simp [m_is_head, b_is_head, i0, rb, csh]
theorem r_ishead {c : Nat} {e : D} (hc : c < 1152921504606846976) (he : m_is_stamp [e] T = .ok (.bl b) T) : m_is_head [.tup [.int (c : Int), e]] T = .ok (.bl b) T := by
  have rb : m_is_below [.int (c : Int), .int 1152921504606846976] T = .ok (.bl true) T := r_below (m := 1152921504606846976) hc T
  have i0 : atI [.int (c : Int), e] 0 = some (.int (c : Int)) := rfl
  have i1 : atI [.int (c : Int), e] 1 = some e := rfl
  have csh := csh60
  simp [m_is_head, b_is_head, i0, i1, rb, csh, he]
theorem jh_mark {c : Nat} {e : D} {T : Sto} (hc : c < 1152921504606846976) (h : Js e T) : Jh (.tup [.int (c : Int), e]) T := fun U k => r_ishead hc (r_nostamp (h.keep k))
theorem mod10 (c : Int) : c % 10 = 0 ∨ c % 10 = 1 ∨ c % 10 = 2 ∨ c % 10 = 3 ∨ c % 10 = 4 ∨ c % 10 = 5 ∨ c % 10 = 6 ∨ c % 10 = 7 ∨ c % 10 = 8 ∨ c % 10 = 9 := by omega
theorem mod11 (c : Int) : c % 11 = 0 ∨ c % 11 = 1 ∨ c % 11 = 2 ∨ c % 11 = 3 ∨ c % 11 = 4 ∨ c % 11 = 5 ∨ c % 11 = 6 ∨ c % 11 = 7 ∨ c % 11 = 8 ∨ c % 11 = 9 ∨ c % 11 = 10 := by omega
theorem blw_no {d : D} {T : Sto} (h : Nw d T) (m : Int) : blw d m = false := by
  rcases h with rfl | ⟨b, rfl⟩ | ⟨z, rfl⟩ | ⟨xs, rfl⟩ | ⟨r, rfl, _⟩ <;> rfl
theorem blw_int {i m : Int} (h : i < 0 ∨ m ≤ i) : blw (.int i) m = false := by
  unfold blw
  simp
  omega
theorem log_c {m : Nat} (hm : m < 1152921504606846976) : (m : Int).natAbs.log2 < 1920 := log_big (by omega) (Int.lt_trans (show (m : Int) < 1152921504606846976 by omega) (by decide))
theorem log_c' {m : Nat} (hm : m < 1152921504606846976) : m.log2 < 1920 := by
  have := log_c hm
  simpa using this

theorem mod5 (c : Int) : c % 5 = 0 ∨ c % 5 = 1 ∨ c % 5 = 2 ∨ c % 5 = 3 ∨ c % 5 = 4 := by omega
theorem addL {U : Sto} {a b : Nat} {xs ys : List D} (h1 : U[a]? = some (.lst xs)) (h2 : U[b]? = some (.lst ys)) (hl : xs.length + ys.length ≤ 1000) : fAdd (.ref a) (.ref b) U = some (.ref U.length, U ++ [.lst (xs ++ ys)]) := by
  have l1 := lst_of h1
  have l2 := lst_of h2
  have : xs.length + ys.length ≤ 16777216 := by omega
  simp [h1, h2, l1, l2, this]
theorem r_nohead (c : Int) {m : Nat} {mk : D} (hm : m < 1152921504606846976) (hk : Pt mk) (T : Sto) : ∃ d G, m__law_no_head [.int c, .int (m : Int), mk] T = .ok d (T ++ G) ∧ Jh d (T ++ G) := by
  have csh := csh60
  have lc := log_c' hm
  generalize hA : ([.non, .tup [.int (m : Int)], .tup [.int (m : Int), mk, mk], .ref T.length, .tup [.bl true, mk], .tup [.int (-1 - (m : Int)), mk], .tup [.int 1152921504606846976, mk]] : List D) = A at *
  generalize hT1 : T ++ [Ob.lst [.int (m : Int), mk], .lst A] = T1 at *
  have v1 : (sAsg 3 (mLst (mCons (mC .non) (mCons (mTup (mCons (mVar 1) (mNil))) (mCons (mTup (mCons (mVar 1) (mCons (mVar 2) (mCons (mVar 2) (mNil))))) (mCons (mLst (mCons (mVar 1) (mCons (mVar 2) (mNil)))) (mCons (mTup (mCons (mC (.bl true)) (mCons (mVar 2) (mNil)))) (mCons (mTup (mCons (mBin fSub (mUn fNeg (mC (.int 1))) (mVar 1)) (mCons (mVar 2) (mNil)))) (mCons (mTup (mCons (mBin fShl (mC (.int 1)) (mC (.int 60))) (mCons (mVar 2) (mNil)))) (mNil)))))))))) [some (.int c), some (.int (m : Int)), some mk, none] T = .fl (.nx [some (.int c), some (.int (m : Int)), some mk, some (.ref (T.length + 1))]) T1 := by
    rw [← hT1, ← hA]
    exact asg_of' (d := .ref (T.length + 1)) (by simp [csh])
  obtain ⟨z, G, e1, e2, _⟩ := r_nost (c / 10) T1
  have hA1 : T1[T.length + 1]? = some (.lst A) := by rw [← hT1]; simp
  have hA0 : T1[T.length]? = some (.lst [.int (m : Int), mk]) := by rw [← hT1]; simp
  have k2 := at_more (l := G) hA1
  have k1 := at_more (l := G) hA0
  generalize hT2 : T1 ++ G = T2 at *
  generalize hB : ([.tup [.str (num (m : Int)), mk], .tup [.int (m : Int), z], mk, .ref T2.length] : List D) = B at *
  have x1 : (mLst (mCons (mTup (mCons (mCB fStr (mCons (mVar 1) mNil)) (mCons (mVar 2) (mNil)))) (mCons (mTup (mCons (mVar 1) (mCons (mCall m__law_no_stamp (mCons (mBin fDiv (mVar 0) (mC (.int 10))) (mNil))) (mNil)))) (mCons (mVar 2) (mCons (mDk) (mNil)))))) [some (.int c), some (.int (m : Int)), some mk, some (.ref (T.length + 1))] T1 = .ok (.ref (T2.length + 1)) (T2 ++ [.dk [], .lst B]) := by
    rw [← hB]
    simp [lc, e1]
  have a1 : (T2 ++ [Ob.dk [], .lst B])[T.length + 1]? = some (.lst A) := at_more k2
  have a2 : (T2 ++ [Ob.dk [], .lst B])[T2.length + 1]? = some (.lst B) := by simp
  have a0 : (T2 ++ [Ob.dk [], .lst B])[T2.length]? = some (.dk []) := by simp
  have ad := addL a1 a2 (by rw [← hA, ← hB]; simp)
  have v2 : (sAsg 3 (mBin fAdd (mVar 3) (mLst (mCons (mTup (mCons (mCB fStr (mCons (mVar 1) mNil)) (mCons (mVar 2) (mNil)))) (mCons (mTup (mCons (mVar 1) (mCons (mCall m__law_no_stamp (mCons (mBin fDiv (mVar 0) (mC (.int 10))) (mNil))) (mNil)))) (mCons (mVar 2) (mCons (mDk) (mNil)))))))) [some (.int c), some (.int (m : Int)), some mk, some (.ref (T.length + 1))] T1 = .fl (.nx [some (.int c), some (.int (m : Int)), some mk, some (.ref (T2 ++ [Ob.dk [], .lst B]).length)]) (T2 ++ [Ob.dk [], .lst B] ++ [.lst (A ++ B)]) :=
    asg_of' (d := .ref (T2 ++ [Ob.dk [], .lst B]).length) (by
      rw [ev_bin, ev_var]
      simp only [getV_succ, getV_zero, R.bind_ok, x1, ad]
      rfl)
  have hU : T2 ++ [Ob.dk [], .lst B] ++ [.lst (A ++ B)] = T ++ ([Ob.lst [.int (m : Int), mk], .lst A] ++ G ++ [Ob.dk [], .lst B] ++ [.lst (A ++ B)]) := by
    rw [← hT2, ← hT1]
    simp
  have hL : (T2 ++ [Ob.dk [], .lst B] ++ [.lst (A ++ B)])[(T2 ++ [Ob.dk [], Ob.lst B]).length]? = some (.lst (A ++ B)) := by simp
  have b0 := at_more (l := [.lst (A ++ B)]) a0
  have b1 := at_more (l := [.lst (A ++ B)]) (at_more (l := [Ob.dk [], .lst B]) k1)
  have e2' : Js z (T2 ++ [Ob.dk [], .lst B] ++ [.lst (A ++ B)]) := e2.keep (Keep.app.trans Keep.app)
  generalize hU2 : T2 ++ [Ob.dk [], Ob.lst B] ++ [.lst (A ++ B)] = U at *
  have fin : ∀ {d : D} {i : Int}, c % 11 = i → atI (A ++ B) i = some d → Jh d U → ∃ d G, m__law_no_head [.int c, .int (m : Int), mk] T = .ok d (T ++ G) ∧ Jh d (T ++ G) := fun {d i} hi e j =>
    ⟨d, _, hU ▸ def_rt (ρ0 := [some (.int c), some (.int (m : Int)), some mk, none]) (seq_nx v1 (seq_nx v2 (by
      have := pick hL i e
      generalize (T2 ++ [Ob.dk [], Ob.lst B]).length = n at *
      clear hU v2 v1
      simp only [ev_ret, ev_bin, ev_var, ev_c, getV_zero, getV_succ, R.bind_ok, fMod_ev]
      simp [hi, -fItem_ref, this]))), hU ▸ j⟩
  have jmk : Jh mk U := by
    rcases hk with ⟨n, rfl, _⟩ | ⟨s, rfl, _⟩
    · exact jh_int
    · exact jh_str
  rcases mod11 c with h | h | h | h | h | h | h | h | h | h | h
  · exact fin (d := .non) h (by rw [← hA, ← hB]; rfl) jh_non
  · exact fin (d := .tup [.int (m : Int)]) h (by rw [← hA, ← hB]; rfl) (jh_len (by simp) (by simp))
  · exact fin (d := .tup [.int (m : Int), mk, mk]) h (by rw [← hA, ← hB]; rfl) (jh_len (by simp) (by simp))
  · exact fin (d := .ref T.length) h (by rw [← hA, ← hB]; rfl) (jh_lst b1)
  · exact fin (d := .tup [.bl true, mk]) h (by rw [← hA, ← hB]; rfl) (jh_count (.inr (.inr (.inl ⟨_, rfl⟩))) rfl)
  · exact fin (d := .tup [.int (-1 - (m : Int)), mk]) h (by rw [← hA, ← hB]; rfl) (jh_count (.inl ⟨_, rfl⟩) (blw_int (by omega)))
  · exact fin (d := .tup [.int 1152921504606846976, mk]) h (by rw [← hA, ← hB]; rfl) (jh_count (.inl ⟨_, rfl⟩) (blw_int (by omega)))
  · exact fin (d := .tup [.str (num (m : Int)), mk]) h (by rw [← hA, ← hB]; rfl) (jh_count (.inr (.inr (.inr (.inl ⟨_, rfl⟩)))) rfl)
  · exact fin (d := .tup [.int (m : Int), z]) h (by rw [← hA, ← hB]; rfl) (jh_mark hm e2')
  · exact fin (d := mk) h (by rw [← hA, ← hB]; rfl) jmk
  · exact fin (d := .ref T2.length) h (by rw [← hA, ← hB]; rfl) (jh_dk b0)

theorem tk (ms : List D) {k : Nat} (h : k ≤ ms.length) : Eng.cutD ms none (some (k : Int)) = ms.take k := lst_take h
theorem dp (ms : List D) {k : Nat} (h : k ≤ ms.length) : Eng.cutD ms (some (k : Int)) none = ms.drop k := lst_drop h
/-! the first that is due -/
def fst' : List Bool → Int → Int
  | [], _ => -1
  | b :: r, i => if b then i else fst' r (i + 1)
theorem r_lfirst {L : Nat} {T : Sto} {bs : List Bool} (h : T[L]? = some (.lst (bs.map D.bl))) (hl : bs.length ≤ 1000) : m__law_first [.ref L] T = .ok (.int (fst' bs 0)) T := by
  have l := lst_of h
  have h16 : bs.length ≤ 16777216 := by omega
  have sm6 : small62 (bs.length : Int) = true := by unfold small62; simp; omega
  rcases for_inv' (it := itR 0 bs.length) (f := fName 1) (b := l1__law_first)
    (fun i ρ S => (∃ o, ρ = [some (.ref L), o]) ∧ S = T ∧ fst' bs 0 = fst' (bs.drop i) (i : Int))
    (fun r => r = .fl (.rt (.int (fst' bs 0))) T)
    (fun i ρ S hi ⟨⟨o, q1⟩, q2, q3⟩ => by
      subst q1 q2
      have hi' : i < bs.length := by
        exact hi
      have ha : atI (bs.map D.bl) (i : Int) = some (.bl bs[i]) := by
        rw [atI_at (by omega) (by rw [List.length_map]; omega)]
        simp [List.getElem?_eq_getElem hi']
      have hdr := List.drop_eq_getElem_cons hi'
      refine ⟨.int (0 + i), [some (.ref L), some (.int (i : Int))], rfl, by simp [fName], ?_⟩
      cases hb : bs[i] with
      | false =>
        rw [hb] at ha
        refine .inl ⟨[some (.ref L), some (.int (i : Int))], S, ?_, ⟨_, rfl⟩, rfl, ?_⟩
        · generalize bs.map D.bl = W at *
          simp [l1__law_first, l, h, ha]
        · rw [q3, hdr, hb]
          simp [fst']
      | true =>
        rw [hb] at ha
        have e : fst' bs 0 = (i : Int) := by
          rw [q3, hdr, hb]
          simp [fst']
        have eb : l1__law_first [some (.ref L), some (.int (i : Int))] S = .fl (.rt (.int (fst' bs 0))) S := by
          rw [e]
          generalize bs.map D.bl = W at *
          simp [l1__law_first, l, h, ha]
        exact .inr ⟨.inl ⟨_, _, eb⟩, eb⟩)
    (fun _ _ _ => rfl) (ρ := [some (.ref L), none]) (S := T) ⟨⟨none, rfl⟩, rfl, rfl⟩ with ⟨ρ', S', e1, ⟨o, rfl⟩, rfl, q3⟩ | ⟨_, e1⟩
  · have hc : (itR 0 bs.length).cnt = bs.length := by
      rfl
    rw [hc, List.drop_length] at q3
    rw [q3]
    have hlen : (bs.map D.bl).length = bs.length := by simp
    refine def_rt (ρ0 := [some (.ref L), none]) (seq_nx (for_of (it := itR 0 bs.length) (S1 := S') ?_ e1) (by simp [fst']))
    generalize bs.map D.bl = W at *
    simp [l, h, hlen, h16, sm6]
  · have hlen : (bs.map D.bl).length = bs.length := by simp
    refine def_rt (ρ0 := [some (.ref L), none]) (seq_rt (for_of (it := itR 0 bs.length) (S1 := T) ?_ e1))
    generalize bs.map D.bl = W at *
    simp [l, h, hlen, h16, sm6]

/-! what was caught -/
/-- the class of the k-th kind of refusal -/
def Kd (k : Int) (C : Str) : Prop := (k = 0 ∧ C = "NoHead") ∨ (k = 1 ∧ C = "NoPlace") ∨ (k = 2 ∧ C = "NoPaper") ∨ (k = 3 ∧ C = "Broken") ∨ (k = 4 ∧ C = "NoStamp")
theorem Kd.isa {k : Int} {C : Str} (h : Kd k C) : 0 ≤ k ∧ k < 5 ∧ isa C "StampError" = some true ∧ isa C "NoHead" = some (decide (k = 0)) ∧ isa C "NoPlace" = some (decide (k = 1)) ∧ isa C "NoPaper" = some (decide (k = 2)) ∧ isa C "Broken" = some (decide (k = 3)) ∧ isa C "NoStamp" = some (decide (k = 4)) ∧ isaT C "ValueError" = some true := by
  rcases h with ⟨rfl, rfl⟩ | ⟨rfl, rfl⟩ | ⟨rfl, rfl⟩ | ⟨rfl, rfl⟩ | ⟨rfl, rfl⟩ <;> decide +kernel
def Cau (d : D) (T : Sto) (k : Int) : Prop := (k = -1 ∧ d = .non) ∨ ∃ n C fs, d = .ref n ∧ T[n]? = some (.exn C fs) ∧ Kd k C


/-! papers of growth by hand -/
theorem cut_last (X : List D) (d : D) : Eng.cutD (X ++ [d]) none (some (-1)) = X := by
  have e1 : HT.sIx (X ++ [d]).length 0 none = 0 := rfl
  have e2 : HT.sIx (X ++ [d]).length (X ++ [d]).length (some (-1)) = X.length := by
    simp [HT.sIx]
    omega
  unfold Eng.cutD
  rw [e1, e2, List.drop_zero, Nat.sub_zero, List.take_left]
theorem cut_one (d : D) (X : List D) : Eng.cutD (d :: X) (some 1) none = X := lst_drop (es := d :: X) (c := 1) (by simp)
/-- a count, an elder one above 0, how many marks -/
inductive Gw : Nat → Nat → Nat → Prop
  | eq {c : Nat} : Gw c c 1
  | le {c e k : Nat} : e < c → e ≤ hf c → Gw (hf c) e k → Gw c e (k + 1)
  | gt {c e k : Nat} : e < c → hf c < e → Gw (c - hf c) (e - hf c) k → Gw c e (k + 1)
theorem Gw.ex : ∀ (a c e : Nat), 0 < e → e ≤ c → c ≤ 2 ^ a → ∃ k, Gw c e k ∧ 1 ≤ k ∧ k ≤ a + 1
  | 0, c, e, h0, h1, h2 => by
    have : e = c := by simp at h2; omega
    exact ⟨1, this ▸ .eq, by omega, by omega⟩
  | a + 1, c, e, h0, h1, h2 => by
    by_cases he : e = c
    · exact ⟨1, he ▸ .eq, by omega, by omega⟩
    · have c2 : 2 ≤ c := by omega
      obtain ⟨f1, f2, f3⟩ := hf_nat c2
      have f4 := hf_le c2 h2
      by_cases hl : e ≤ hf c
      · obtain ⟨k, g, k1, k2⟩ := Gw.ex a (hf c) e h0 hl f4
        exact ⟨k + 1, .le (by omega) hl g, by omega, by omega⟩
      · obtain ⟨k, g, k1, k2⟩ := Gw.ex a (c - hf c) (e - hf c) (by omega) (by omega) (by omega)
        exact ⟨k + 1, .gt (by omega) (by omega) g, by omega, by omega⟩
theorem Gw.pos {c e k : Nat} (h : Gw c e k) : 1 ≤ k := by cases h <;> omega
/-- how_many's loop -/
theorem how_loop {c e k : Nat} (h : Gw c e k) : 0 < e → e ≤ c → c ≤ 1152921504606846976 → ∀ (x : Int) (o : Option D) (T : Sto), ∃ a b o', sWhile w1_how_many l2_how_many [some (.int (c : Int)), some (.int (e : Int)), some (.int x), o] T = .fl (.nx [a, b, some (.int (x + (k : Int) - 1)), o']) T := by
  induction h with
  | @eq c =>
    intro h0 h1 h2 x o T
    refine ⟨some (.int (c : Int)), some (.int (c : Int)), o, ?_⟩
    rw [show x + ((1 : Nat) : Int) - 1 = x by omega]
    refine while_done (S1 := T) ?_
    have : ¬ c = 0 := by omega
    simp [w1_how_many, this]
  | @le c e k h1 h2 h3 ih =>
    intro h0 hc hb x o T
    have c2 : 2 ≤ c := by omega
    obtain ⟨f1, f2, f3⟩ := hf_nat c2
    obtain ⟨a, b, o', q⟩ := ih h0 h2 (by omega) (x + 1) (some (.int (hf c : Int))) T
    refine ⟨a, b, o', ?_⟩
    have hh := r_halfB c2 hb T
    have n0 : ¬ e = 0 := by omega
    have nc : ¬ e = c := by omega
    have ni : ¬ (e : Int) = (c : Int) := by omega
    have e2 : (e : Int) ≤ (hf c : Int) := by omega
    rw [show x + ((k + 1 : Nat) : Int) - 1 = x + 1 + (k : Int) - 1 by omega]
    refine while_step (S1 := T) (ρ1 := [some (.int (hf c : Int)), some (.int (e : Int)), some (.int (x + 1)), some (.int (hf c : Int))]) (S2 := T) ?_ ?_ q (by intro h; cases h)
    · simp [w1_how_many, n0]
      omega
    · generalize hf c = w at *
      simp [l2_how_many, hh, h2]
  | @gt c e k h1 h2 h3 ih =>
    intro h0 hc hb x o T
    have c2 : 2 ≤ c := by omega
    obtain ⟨f1, f2, f3⟩ := hf_nat c2
    obtain ⟨a, b, o', q⟩ := ih (by omega) (by omega) (by omega) (x + 1) (some (.int (hf c : Int))) T
    refine ⟨a, b, o', ?_⟩
    have hh := r_halfB c2 hb T
    have n0 : ¬ e = 0 := by omega
    have nc : ¬ e = c := by omega
    have e2 : ¬ e ≤ hf c := by omega
    have s1 : (e : Int) - (hf c : Int) = ((e - hf c : Nat) : Int) := by omega
    have s2 : (c : Int) - (hf c : Int) = ((c - hf c : Nat) : Int) := by omega
    rw [show x + ((k + 1 : Nat) : Int) - 1 = x + 1 + (k : Int) - 1 by omega]
    refine while_step (S1 := T) (ρ1 := [some (.int ((c - hf c : Nat) : Int)), some (.int ((e - hf c : Nat) : Int)), some (.int (x + 1)), some (.int (hf c : Int))]) (S2 := T) ?_ ?_ q (by intro h; cases h)
    · simp [w1_how_many, n0]
      omega
    · generalize hf c = w at *
      simp [l2_how_many, hh, e2, s1, s2]
theorem r_how {c e k : Nat} (h : Gw c e k) (h0 : 0 < e) (h1 : e ≤ c) (hb : c ≤ 1152921504606846976) (T : Sto) : m_how_many [.int (c : Int), .int (e : Int)] T = .ok (.int (k : Int)) T := by
  obtain ⟨a, b, o', q⟩ := how_loop h h0 h1 hb 1 none T
  rw [show 1 + (k : Int) - 1 = (k : Int) by omega] at q
  have n0 : ¬ c = 0 := by omega
  simp [m_how_many, b_how_many, n0, q]
/-- how many marks, for any counts -/
def gn (c e k : Nat) : Prop := (c = 0 ∧ k = 0) ∨ (0 < c ∧ e = 0 ∧ k = 1) ∨ (0 < e ∧ Gw c e k)
theorem r_howG {c e k : Nat} (h : gn c e k) (h1 : e ≤ c) (hb : c ≤ 1152921504606846976) (T : Sto) : m_how_many [.int (c : Int), .int (e : Int)] T = .ok (.int (k : Int)) T := by
  rcases h with ⟨rfl, rfl⟩ | ⟨h0, rfl, rfl⟩ | ⟨h0, g⟩
  · simp [m_how_many, b_how_many]
  · have n0 : ¬ c = 0 := by omega
    have w : sWhile w1_how_many l2_how_many [some (.int (c : Int)), some (.int 0), some (.int 1), none] T = .fl (.nx [some (.int (c : Int)), some (.int 0), some (.int 1), none]) T := while_done (by simp [w1_how_many])
    simp [m_how_many, b_how_many, n0, w]
  · exact r_how g h0 h1 hb T
theorem gn.ex {c e : Nat} (h : e ≤ c) (hb : c < 1152921504606846976) : ∃ k, gn c e k ∧ k ≤ 61 := by
  by_cases h0 : c = 0
  · exact ⟨0, .inl ⟨h0, rfl⟩, by omega⟩
  · by_cases he : e = 0
    · exact ⟨1, .inr (.inl ⟨by omega, he, rfl⟩), by omega⟩
    · obtain ⟨k, g, k1, k2⟩ := Gw.ex 60 c e (by omega) h (by rw [show (2 : Nat) ^ 60 = 1152921504606846976 by decide]; omega)
      exact ⟨k, .inr (.inr ⟨by omega, g⟩), k2⟩
/-- the joints of the younger and the elder row, and their tops -/
inductive Jd (P : List D → Option D) : Nat → Nat → List D → List D → D → List D → D → Prop
  | eq {c : Nat} {m : D} : Jd P c c [m] [] m [] m
  | le {c e : Nat} {ms ys os : List D} {m ty to ty' : D} : e < c → e ≤ hf c → Jd P (hf c) e ms ys ty os to → P [.str "joint", ty, m] = some ty' → Jd P c e (ms ++ [m]) (ys ++ [.tup [.str "joint", ty, m]]) ty' os to
  | gt {c e : Nat} {ms ys os : List D} {m ty to ty' to' : D} : e < c → hf c < e → Jd P (c - hf c) (e - hf c) ms ys ty os to → P [.str "joint", m, ty] = some ty' → P [.str "joint", m, to] = some to' → Jd P c e (m :: ms) (ys ++ [.tup [.str "joint", m, ty]]) ty' (os ++ [.tup [.str "joint", m, to]]) to'
theorem Jd.ext {P Q : List D → Option D} {c e : Nat} {ms ys os : List D} {ty to : D} (h : Jd P c e ms ys ty os to) (x : Ext P Q) : Jd Q c e ms ys ty os to := by
  induction h with
  | eq => exact .eq
  | le h1 h2 _ h4 ih => exact .le h1 h2 ih (x _ _ h4)
  | gt h1 h2 _ h4 h5 ih => exact .gt h1 h2 ih (x _ _ h4) (x _ _ h5)
theorem Jd.det {P : List D → Option D} {c e : Nat} {ms ys os : List D} {ty to : D} (h : Jd P c e ms ys ty os to) : ∀ {ms' ys' os' : List D} {ty' to' : D}, Jd P c e ms' ys' ty' os' to' → ms = ms' → ys = ys' ∧ ty = ty' ∧ os = os' ∧ to = to' := by
  induction h with
  | eq =>
    intro ms' ys' os' ty' to' h' hm
    cases h' with
    | eq => cases hm; exact ⟨rfl, rfl, rfl, rfl⟩
    | le h1 _ _ _ => omega
    | gt h1 _ _ _ _ => omega
  | le h1 h2 h3 h4 ih =>
    intro ms' ys' os' ty' to' h' hm
    cases h' with
    | eq => omega
    | le k1 k2 k3 k4 =>
      obtain ⟨e1, e2⟩ := List.append_inj' hm rfl
      cases e2
      obtain ⟨rfl, rfl, rfl, rfl⟩ := ih k3 e1
      rw [h4] at k4
      cases k4
      exact ⟨rfl, rfl, rfl, rfl⟩
    | gt k1 k2 _ _ _ => omega
  | gt h1 h2 h3 h4 h5 ih =>
    intro ms' ys' os' ty' to' h' hm
    cases h' with
    | eq => omega
    | le k1 k2 _ _ => omega
    | gt k1 k2 k3 k4 k5 =>
      cases hm
      obtain ⟨rfl, rfl, rfl, rfl⟩ := ih k3 rfl
      rw [h4] at k4
      cases k4
      rw [h5] at k5
      cases k5
      exact ⟨rfl, rfl, rfl, rfl⟩
theorem ask_joint {n : Nat} {T : Sto} {f : Nat} {P : List D → Option D} (h : Stm n T f P) (hn : n < 100000) {x y : D} {a b : Nat} (hx : Sz a x) (hy : Sz b y) (ha : 61 ≤ a) (hb : 61 ≤ b) (hab : a + b ≤ 60000) :
    ∃ U d Q, callV tabV (.ref f) [.tup [.str "joint", x, y]] T = .ok d U ∧ Stm (n + 1) U f Q ∧ Q [.str "joint", x, y] = some d ∧ Ext P Q ∧ Keep T U ∧ Sz (a + b + 100) d := by
  have g : Gt [.str "joint", x, y] := gt3 sz_joint (hx.up (by omega)) (hy.up (by omega))
  obtain ⟨U, d, Q, a1, a2, a3, a4, a5, a6⟩ := ask h hn g
  have := wr3 sz_joint hx hy ha (by omega) hb (by omega)
  exact ⟨U, d, Q, a1, a2, a3, a4, a5, a6.sz g.2.2.2 (by omega)⟩
theorem snoc_of {α : Type} {ms : List α} {k : Nat} (h : ms.length = k + 1) : ∃ xs m, ms = xs ++ [m] ∧ xs.length = k := by
  have : ms ≠ [] := by rintro rfl; simp at h
  exact ⟨ms.dropLast, ms.getLast this, (List.dropLast_concat_getLast this).symm, by simp [h]⟩
theorem cons_of {α : Type} {ms : List α} {k : Nat} (h : ms.length = k + 1) : ∃ m xs, ms = m :: xs ∧ xs.length = k := by
  match ms, h with
  | m :: xs, h => exact ⟨m, xs, rfl, by simpa using h⟩
def JQ (n : Nat) (T : Sto) (f : Nat) (Q : List D → Option D) (c e k : Nat) (ms : List D) (d : D) (U : Sto) : Prop := ∃ y1 ty o1 to ys os Q', d = .tup [.tup [.ref y1, ty], .tup [.ref o1, to]] ∧ U[y1]? = some (.lst ys) ∧ U[o1]? = some (.lst os) ∧ Stm (n + 2 * k) U f Q' ∧ Ext Q Q' ∧ Keep T U ∧ Jd Q' c e ms ys ty os to ∧ Sz (200 * k) ty ∧ Sz (200 * k) to ∧ ys.length < k ∧ os.length < k
theorem jq_one {n : Nat} {T : Sto} {f : Nat} {Q : List D → Option D} (st : Stm n T f Q) (c : Nat) {m : D} (hm : Sz 100 m) : JQ n T f Q c c 1 [m] (.tup [.tup [.ref T.length, m], .tup [.ref (T.length + 1), m]]) (T ++ [.lst [], .lst []]) :=
  ⟨_, _, _, _, [], [], Q, rfl, by simp, by simp, st.more.up (by omega), Ext.refl, Keep.app, .eq, hm.up (by omega), hm.up (by omega), by simp, by simp⟩
theorem g_joined0 : ∀ (a N : Nat) {c e k : Nat} (ms : List D) {n : Nat} {T : Sto} {f : Nat} {Q : List D → Option D}, Gw c e k → ms.length = k → 0 < e → e ≤ c → c ≤ 2 ^ a → a ≤ 60 → (∀ d ∈ ms, Sz 100 d) → Stm n T f Q → n + 2 * k < 90000 → k ≤ 61 → a < N →
    We (r_joined N [.ref f, .int (c : Int), .int (e : Int), .tup ms] T) (JQ n T f Q c e k ms) (fun _ _ => False) := by
  intro a
  induction a with
  | zero =>
    intro N c e k ms n T f Q g hl h0 h1 h2 _ hm st hn hk hN
    obtain ⟨N, rfl⟩ : ∃ M, N = M + 1 := ⟨N - 1, by omega⟩
    have hec : e = c := by simp at h2; omega
    subst hec
    cases g with
    | eq =>
      obtain ⟨m, xs, rfl, hx⟩ := cons_of hl
      cases List.length_eq_zero_iff.mp hx
      refine we_def ?_
      unfold b_joined
      simp -dsimp
      exact jq_one st e (hm m (by simp))
    | le h _ _ => omega
    | gt h _ _ => omega
  | succ a ih =>
    intro N c e k ms n T f Q g hl h0 h1 h2 ha hm st hn hk hN
    obtain ⟨N, rfl⟩ : ∃ M, N = M + 1 := ⟨N - 1, by omega⟩
    have hb : c ≤ 1152921504606846976 := by
      have := Nat.pow_le_pow_right (n := 2) (by decide) ha
      have e60 : (2 : Nat) ^ 60 = 1152921504606846976 := by decide
      have : 2 ^ (a + 1) ≤ 2 ^ 60 := this
      omega
    refine we_def ?_
    unfold b_joined
    cases g with
    | eq =>
      obtain ⟨m, xs, rfl, hx⟩ := cons_of hl
      cases List.length_eq_zero_iff.mp hx
      simp -dsimp
      exact jq_one st c (hm m (by simp))
    | @le _ _ k g1 g2 g3 =>
      have c2 : 2 ≤ c := by omega
      obtain ⟨f1, f2, f3⟩ := hf_nat c2
      have f4 := hf_le c2 h2
      have hh := r_halfB c2 hb T
      obtain ⟨xs, m, rfl, hx⟩ := snoc_of hl
      obtain ⟨d, U, e1, y1, ty, o1, to, ys, os, Q1, rfl, u1, u2, u3, u4, u5, u6, u7, u8, u9, u10⟩ := (ih N xs (n := n) (T := T) (f := f) (Q := Q) g3 hx h0 g2 f4 (by omega) (fun d hd => hm d (List.mem_append_left _ hd)) st (by omega) (by omega) (by omega)).ok
      have ne : ¬ e = c := by omega
      have nei : ¬ (e : Int) = (c : Int) := by omega
      have hmm : Sz 100 m := hm m (by simp)
      have kp := g3.pos
      have la := last_pk xs m
      have cl := cut_last xs m
      obtain ⟨V, tj, Q2, v1, v2, v3, v4, v5, v6⟩ := ask_joint (u3.more (G := [.lst [.tup [.str "joint", ty, m]], .lst (ys ++ [.tup [.str "joint", ty, m]])])) (by omega) u7 hmm (by omega) (by omega) (by omega)
      have fa := addL (U := U ++ [.lst [.tup [.str "joint", ty, m]]]) (a := y1) (b := U.length) (xs := ys) (ys := [.tup [.str "joint", ty, m]]) (at_more u1) (by simp) (by simp; omega)
      have hfn := (u3.more (G := [.lst [.tup [.str "joint", ty, m]], .lst (ys ++ [.tup [.str "joint", ty, m]])])).fn
      rw [List.append_assoc, List.cons_append, List.nil_append] at fa
      have w1 := v5 (U.length + 1) (.lst (ys ++ [.tup [.str "joint", ty, m]])) (by simp) (by simp)
      have w2 := v5 o1 _ (at_more u2) (by simp)
      have l1 : (U ++ [Ob.lst [.tup [.str "joint", ty, m]]]).length = U.length + 1 := by simp
      rw [l1] at fa
      simp -dsimp [ne, nei, hh, g2, cl, e1, la, fa, -fAdd_ref, hfn, v1]
      exact ⟨_, _, _, _, _, _, Q2, rfl, w1, w2, v2.up (by omega), u4.trans v4, (u5.trans Keep.app).trans v5, .le g1 g2 (u6.ext v4) v3, v6.up (by omega), u8.up (by omega), by simp; omega, by omega⟩
    | @gt _ _ k g1 g2 g3 =>
      have c2 : 2 ≤ c := by omega
      obtain ⟨f1, f2, f3⟩ := hf_nat c2
      have f4 := hf_le c2 h2
      have hh := r_halfB c2 hb T
      obtain ⟨m, xs, rfl, hx⟩ := cons_of hl
      obtain ⟨d, U, e1, y1, ty, o1, to, ys, os, Q1, rfl, u1, u2, u3, u4, u5, u6, u7, u8, u9, u10⟩ := (ih N xs (n := n) (T := T) (f := f) (Q := Q) g3 hx (by omega) (by omega) (by omega) (by omega) (fun d hd => hm d (List.mem_cons_of_mem _ hd)) st (by omega) (by omega) (by omega)).ok
      have ne : ¬ e = c := by omega
      have nei : ¬ (e : Int) = (c : Int) := by omega
      have hmm : Sz 100 m := hm m (by simp)
      have kp := g3.pos
      have co := cut_one m xs
      have nle : ¬ e ≤ hf c := by omega
      have s1 : (e : Int) - (hf c : Int) = ((e - hf c : Nat) : Int) := by omega
      have s2 : (c : Int) - (hf c : Int) = ((c - hf c : Nat) : Int) := by omega
      have st2 := u3.more (G := [.lst [.tup [.str "joint", m, ty]], .lst (ys ++ [.tup [.str "joint", m, ty]])])
      obtain ⟨V, tj, Q2, v1, v2, v3, v4, v5, v6⟩ := ask_joint st2 (by omega) hmm u7 (by omega) (by omega) (by omega)
      have fa := addL (U := U ++ [.lst [.tup [.str "joint", m, ty]]]) (a := y1) (b := U.length) (xs := ys) (ys := [.tup [.str "joint", m, ty]]) (at_more u1) (by simp) (by simp; omega)
      have hfn := st2.fn
      rw [List.append_assoc, List.cons_append, List.nil_append] at fa
      have l1 : (U ++ [Ob.lst [.tup [.str "joint", m, ty]]]).length = U.length + 1 := by simp
      rw [l1] at fa
      have w1 := v5 (U.length + 1) (.lst (ys ++ [.tup [.str "joint", m, ty]])) (by simp) (by simp)
      have w2 := v5 o1 _ (at_more u2) (by simp)
      have st3 := v2.more (G := [.lst [.tup [.str "joint", m, to]], .lst (os ++ [.tup [.str "joint", m, to]])])
      obtain ⟨V2, tk, Q3, z1, z2, z3, z4, z5, z6⟩ := ask_joint st3 (by omega) hmm u8 (by omega) (by omega) (by omega)
      have fb := addL (U := V ++ [.lst [.tup [.str "joint", m, to]]]) (a := o1) (b := V.length) (xs := os) (ys := [.tup [.str "joint", m, to]]) (at_more w2) (by simp) (by simp; omega)
      have hfn3 := st3.fn
      rw [List.append_assoc, List.cons_append, List.nil_append] at fb
      have l2 : (V ++ [Ob.lst [.tup [.str "joint", m, to]]]).length = V.length + 1 := by simp
      rw [l2] at fb
      have w3 := z5 (V.length + 1) (.lst (os ++ [.tup [.str "joint", m, to]])) (by simp) (by simp)
      have w4 := z5 _ _ (at_more w1) (by simp)
      simp -dsimp [ne, nei, hh, nle, co, s1, s2, e1, fa, fb, -fAdd_ref, hfn, v1, hfn3, z1]
      exact ⟨_, _, _, _, _, _, Q3, rfl, w4, w3, z2.up (by omega), (u4.trans v4).trans z4, (((u5.trans Keep.app).trans v5).trans Keep.app).trans z5, .gt g1 g2 (u6.ext (v4.trans z4)) (z4 _ _ v3) z3, v6.up (by omega), z6.up (by omega), by simp; omega, by simp; omega⟩
theorem g_joined' {c e k : Nat} (ms : List D) {n : Nat} {T : Sto} {f : Nat} {Q : List D → Option D} (g : Gw c e k) (hl : ms.length = k) (h0 : 0 < e) (h1 : e ≤ c) (h2 : c ≤ 2 ^ 60) (hm : ∀ d ∈ ms, Sz 100 d) (st : Stm n T f Q) (hn : n + 2 * k < 90000) (hk : k ≤ 61) :
    We (m_joined [.ref f, .int (c : Int), .int (e : Int), .tup ms] T) (JQ n T f Q c e k ms) (fun _ _ => False) := g_joined0 60 70 ms g hl h0 h1 h2 (Nat.le_refl _) hm st hn hk (by decide)
theorem sz_void2 : Sz 61 (.str "void") := sz_void
theorem ask_void {n : Nat} {T : Sto} {f : Nat} {P : List D → Option D} (h : Stm n T f P) (hn : n < 100000) :
    ∃ U d Q, callV tabV (.ref f) [.tup [.str "void"]] T = .ok d U ∧ Stm (n + 1) U f Q ∧ Q [.str "void"] = some d ∧ Ext P Q ∧ Keep T U ∧ Sz 200 d := by
  obtain ⟨U, d, Q, a1, a2, a3, a4, a5, a6⟩ := ask h hn (gt1 sz_void)
  exact ⟨U, d, Q, a1, a2, a3, a4, a5, a6.void⟩
/-- the tops of the younger and the elder row -/
def Tops (P : List D → Option D) (c e : Nat) (ms : List D) (ty to : D) : Prop := (0 < e ∧ ∃ ys os, Jd P c e ms ys ty os to) ∨ (e = 0 ∧ P [.str "void"] = some to ∧ ((c = 0 ∧ ty = to) ∨ (0 < c ∧ ms = [ty])))
theorem Tops.ext {P Q : List D → Option D} {c e : Nat} {ms : List D} {ty to : D} (h : Tops P c e ms ty to) (x : Ext P Q) : Tops Q c e ms ty to := by
  rcases h with ⟨h0, ys, os, h⟩ | ⟨h0, h1, h2⟩
  · exact .inl ⟨h0, ys, os, h.ext x⟩
  · exact .inr ⟨h0, x _ _ h1, h2⟩
theorem Tops.det {P : List D → Option D} {c e : Nat} {ms : List D} {ty to ty' to' : D} (h : Tops P c e ms ty to) (h' : Tops P c e ms ty' to') : ty = ty' ∧ to = to' := by
  rcases h with ⟨h0, ys, os, h⟩ | ⟨h0, h1, h2⟩
  · rcases h' with ⟨k0, ys', os', k⟩ | ⟨k0, _, _⟩
    · obtain ⟨_, e1, _, e2⟩ := h.det k rfl
      exact ⟨e1, e2⟩
    · omega
  · rcases h' with ⟨k0, _⟩ | ⟨k0, k1, k2⟩
    · omega
    · rw [h1] at k1
      cases k1
      refine ⟨?_, rfl⟩
      rcases h2 with ⟨c0, rfl⟩ | ⟨c0, rfl⟩
      · rcases k2 with ⟨_, rfl⟩ | ⟨k, _⟩
        · rfl
        · omega
      · rcases k2 with ⟨k, _⟩ | ⟨_, k⟩
        · omega
        · cases k; rfl
/-- what growth_terms tells: two lists, each with a row's term last -/
def GT (n : Nat) (T : Sto) (f : Nat) (Q : List D → Option D) (c e : Nat) (ms : List D) (d : D) (U : Sto) : Prop := ∃ y1 o1 ys os ty to Q', d = .tup [.ref y1, .ref o1] ∧ U[y1]? = some (.lst (ys ++ [.tup [.str "row", .int (c : Int), ty]])) ∧ U[o1]? = some (.lst (os ++ [.tup [.str "row", .int (e : Int), to]])) ∧ Stm (n + 200) U f Q' ∧ Ext Q Q' ∧ Keep T U ∧ Tops Q' c e ms ty to ∧ Sz 20000 ty ∧ Sz 20000 to ∧ y1 ≠ o1
theorem r_gt0 {n : Nat} {T : Sto} {f : Nat} {Q : List D → Option D} (st : Stm n T f Q) (hn : n < 80000) : ∃ U tv Q1, m_growth_terms [.ref f, .int 0, .int 0, .tup []] T = .ok (.tup [.ref (U.length + 1), .ref U.length]) (U ++ [.lst [.tup [.str "void"], .tup [.str "row", .int 0, tv]], .lst [.tup [.str "void"], .tup [.str "row", .int 0, tv]]]) ∧ Stm (n + 1) U f Q1 ∧ Q1 [.str "void"] = some tv ∧ Ext Q Q1 ∧ Keep T U ∧ Sz 200 tv := by
  have csh := csh60
  have rb1 : m_is_below [.int 0, .int 1152921504606846976] T = .ok (.bl true) T := r_below (c := 0) (m := 1152921504606846976) (by decide) T
  have rb2 : m_is_below [.int 0, .int 1] T = .ok (.bl true) T := r_below (c := 0) (m := 1) (by omega) T
  have rh : m_how_many [.int 0, .int 0] T = .ok (.int 0) T := r_howG (c := 0) (e := 0) (k := 0) (.inl ⟨rfl, rfl⟩) (by omega) (by omega) T
  have rm : m_is_marks [.tup [], .int 0] T = .ok (.bl true) T := r_ismarks (ms := []) (by simp) (by simp) T
  obtain ⟨U, tv, Q1, a1, a2, a3, a4, a5, a6⟩ := ask_void st (by omega)
  have hfn := st.fn
  refine ⟨U, tv, Q1, ?_, a2, a3, a4, a5, a6⟩
  simp [m_growth_terms, b_growth_terms, csh, rb1, rb2, rh, rm, hfn, a1]
theorem r_gterms {c e k : Nat} {ms : List D} {n : Nat} {T : Sto} {f : Nat} {Q : List D → Option D} (g : gn c e k) (hl : ms.length = k) (h1 : e ≤ c) (hc : c < 1152921504606846976) (hk : k ≤ 61) (hm : ∀ d ∈ ms, Sz 100 d) (st : Stm n T f Q) (hn : n < 80000) :
    We (m_growth_terms [.ref f, .int (c : Int), .int (e : Int), .tup ms] T) (GT n T f Q c e ms) (fun _ _ => False) := by
  have csh := csh60
  have rb1 : m_is_below [.int (c : Int), .int 1152921504606846976] T = .ok (.bl true) T := r_below (m := 1152921504606846976) hc T
  have rb2 : m_is_below [.int (e : Int), .int ((c : Int) + 1)] T = .ok (.bl true) T := r_below (m := c + 1) (by omega) T
  have rh := r_howG g h1 (by omega) T
  have rm := r_ismarks (ms := ms) (fun d hd => (hm d hd).up (by decide)) (by omega) T
  rw [hl] at rm
  rcases g with ⟨rfl, rfl⟩ | ⟨h0, rfl, rfl⟩ | ⟨h0, g⟩
  · have e0 : e = 0 := by omega
    subst e0
    cases List.length_eq_zero_iff.mp hl
    obtain ⟨U, tv, Q1, e1, a2, a3, a4, a5, a6⟩ := r_gt0 st hn
    exact We.of e1 ⟨_, _, [.tup [.str "void"]], [.tup [.str "void"]], tv, tv, Q1, rfl, by simp, by simp, a2.more.up (by omega), a4, a5.trans Keep.app, .inr ⟨rfl, a3, .inl ⟨rfl, rfl⟩⟩, a6.up (by omega), a6.up (by omega), by omega⟩
  · refine we_def ?_
    unfold b_growth_terms
    obtain ⟨m, xs, rfl, hx⟩ := cons_of hl
    cases List.length_eq_zero_iff.mp hx
    obtain ⟨U, tv, Q1, a1, a2, a3, a4, a5, a6⟩ := ask_void st (by omega)
    have hfn := st.fn
    have n0 : ¬ c = 0 := by omega
    have rb2' : m_is_below [.int 0, .int ((c : Int) + 1)] T = .ok (.bl true) T := rb2
    have rh' : m_how_many [.int (c : Int), .int 0] T = .ok (.int 1) T := rh
    have rm' : m_is_marks [.tup [m], .int 1] T = .ok (.bl true) T := rm
    simp -dsimp [csh, rb1, rb2', rh', rm', hfn, a1, n0]
    have hsm := hm m (by simp)
    exact ⟨_, _, [], [.tup [.str "void"]], m, tv, Q1, rfl, by simp, by simp, a2.more.up (by omega), a4, a5.trans Keep.app, .inr ⟨rfl, a3, .inr ⟨h0, rfl⟩⟩, hsm.up (by omega), a6.up (by omega), by omega⟩
  · refine we_def ?_
    unfold b_growth_terms
    have e60 : c ≤ 2 ^ 60 := by rw [show (2 : Nat) ^ 60 = 1152921504606846976 by decide]; omega
    obtain ⟨d, U, e1, y1, ty, o1, to, ys, os, Q1, rfl, u1, u2, u3, u4, u5, u6, u7, u8, u9, u10⟩ := (g_joined' ms g hl h0 h1 e60 hm st (by omega) hk).ok
    have he0 : 0 < (e : Int) := by omega
    have fa := addL (U := U ++ [.lst [.tup [.str "row", .int (c : Int), ty]]]) (a := y1) (b := U.length) (xs := ys) (ys := [.tup [.str "row", .int (c : Int), ty]]) (at_more u1) (by simp) (by simp; omega)
    rw [List.append_assoc, List.cons_append, List.nil_append, show (U ++ [Ob.lst [.tup [.str "row", .int (c : Int), ty]]]).length = U.length + 1 by simp] at fa
    have hV1 : (U ++ [Ob.lst [.tup [.str "row", .int (c : Int), ty]], .lst (ys ++ [.tup [.str "row", .int (c : Int), ty]])])[U.length + 1]? = some (.lst (ys ++ [.tup [.str "row", .int (c : Int), ty]])) := by simp
    have st3 := u3.more (G := [Ob.lst [.tup [.str "row", .int (c : Int), ty]], .lst (ys ++ [.tup [.str "row", .int (c : Int), ty]])])
    have u2' := at_more (l := [Ob.lst [.tup [.str "row", .int (c : Int), ty]], .lst (ys ++ [.tup [.str "row", .int (c : Int), ty]])]) u2
    have k3 : Keep T (U ++ [Ob.lst [.tup [.str "row", .int (c : Int), ty]], .lst (ys ++ [.tup [.str "row", .int (c : Int), ty]])]) := u5.trans Keep.app
    have hlen : (U ++ [Ob.lst [.tup [.str "row", .int (c : Int), ty]], .lst (ys ++ [.tup [.str "row", .int (c : Int), ty]])]).length = U.length + 2 := by simp
    have st4 := u3.more (G := [Ob.lst [.tup [.str "row", .int (c : Int), ty]]])
    simp -dsimp [csh, rb1, rb2, rh, rm, he0, h0, e1, fa, -fAdd_ref]
    have fb := addL (U := U ++ [Ob.lst [.tup [.str "row", .int (c : Int), ty]], .lst (ys ++ [.tup [.str "row", .int (c : Int), ty]]), .lst [.tup [.str "row", .int (e : Int), to]]]) (a := o1) (b := U.length + 2) (xs := os) (ys := [.tup [.str "row", .int (e : Int), to]]) (at_more u2) (by simp) (by simp; omega)
    simp -dsimp only [fb, R.ofO_some, we_ok, we_ite]
    simp -dsimp
    exact ⟨_, _, ys, os, ty, to, Q1, rfl, by simp, by simp, u3.more.up (by omega), u4, u5.trans Keep.app, .inl ⟨h0, ys, os, u6⟩, u7.up (by omega), u8.up (by omega), by omega⟩

/-! the law's own half, its own count of marks -/
theorem lhalf_loop {m : Nat} (hm : 2 ≤ m) (hb : m ≤ 1152921504606846976) : ∀ (d a : Nat), a + d = (m - 1).log2 → ∀ S : Sto, sWhile w1__law_half l2__law_half [some (.int (m : Int)), some (.int ((2 ^ a : Nat) : Int))] S = .fl (.nx [some (.int (m : Int)), some (.int (hf m : Int))]) S := by
  obtain ⟨f1, f2, f3⟩ := hf_nat hm
  intro d
  induction d with
  | zero =>
    intro a h S
    have e : hf m = 2 ^ a := by unfold hf; rw [← h]; rfl
    rw [← e]
    refine while_done (S1 := S) ?_
    have c1 : cMul1 2 (hf m : Int) = true := cMul1_l (by omega)
    have n1 : ¬ 2 * (hf m : Int) < (m : Int) := by omega
    generalize hf m = w at *
    simp [w1__law_half, c1, n1]
  | succ d ih =>
    intro a h S
    have e2 : ((2 ^ (a + 1) : Nat) : Int) = 2 * ((2 ^ a : Nat) : Int) := by rw [Nat.pow_succ]; omega
    have le : 2 ^ (a + 1) ≤ hf m := by unfold hf; exact Nat.pow_le_pow_right (by decide) (by omega)
    have q := ih (a + 1) (by omega) S
    rw [e2] at q
    have c1 : cMul1 2 ((2 ^ a : Nat) : Int) = true := cMul1_l (by omega)
    have n1 : 2 * ((2 ^ a : Nat) : Int) < (m : Int) := by omega
    generalize ((2 ^ a : Nat) : Int) = w at *
    refine while_step (S1 := S) (ρ1 := [some (.int (m : Int)), some (.int (2 * w))]) (S2 := S) ?_ ?_ q (by intro h; cases h)
    · simp [w1__law_half, c1, n1]
    · simp [l2__law_half, c1]
theorem r_lhalfB {m : Nat} (hm : 2 ≤ m) (hb : m ≤ 1152921504606846976) (T : Sto) : m__law_half [.int (m : Int)] T = .ok (.int (hf m : Int)) T := by
  have q := lhalf_loop hm hb (m - 1).log2 0 (by omega) T
  rw [show ((2 ^ 0 : Nat) : Int) = 1 from rfl] at q
  simp [m__law_half, b__law_half, q]
theorem lmany_loop {c e k : Nat} (h : Gw c e k) : 0 < e → e ≤ c → c ≤ 1152921504606846976 → ∀ (x : Int) (o : Option D) (T : Sto), ∃ a b o', sWhile w1__law_many l2__law_many [some (.int (c : Int)), some (.int (e : Int)), some (.int x), o] T = .fl (.nx [a, b, some (.int (x + (k : Int) - 1)), o']) T := by
  induction h with
  | @eq c =>
    intro h0 h1 h2 x o T
    refine ⟨some (.int (c : Int)), some (.int (c : Int)), o, ?_⟩
    rw [show x + ((1 : Nat) : Int) - 1 = x by omega]
    refine while_done (S1 := T) ?_
    have : 0 < c := by omega
    simp [w1__law_many, this]
  | @le c e k h1 h2 h3 ih =>
    intro h0 hc hb x o T
    have c2 : 2 ≤ c := by omega
    obtain ⟨f1, f2, f3⟩ := hf_nat c2
    obtain ⟨a, b, o', q⟩ := ih h0 h2 (by omega) (x + 1) (some (.int (hf c : Int))) T
    refine ⟨a, b, o', ?_⟩
    have hh := r_lhalfB c2 hb T
    have nl : ¬ hf c < e := by omega
    rw [show x + ((k + 1 : Nat) : Int) - 1 = x + 1 + (k : Int) - 1 by omega]
    refine while_step (S1 := T) (ρ1 := [some (.int (hf c : Int)), some (.int (e : Int)), some (.int (x + 1)), some (.int (hf c : Int))]) (S2 := T) ?_ ?_ q (by intro h; cases h)
    · simp [w1__law_many, h0, h1]
    · generalize hf c = w at *
      simp [l2__law_many, hh, nl]
  | @gt c e k h1 h2 h3 ih =>
    intro h0 hc hb x o T
    have c2 : 2 ≤ c := by omega
    obtain ⟨f1, f2, f3⟩ := hf_nat c2
    obtain ⟨a, b, o', q⟩ := ih (by omega) (by omega) (by omega) (x + 1) (some (.int (hf c : Int))) T
    refine ⟨a, b, o', ?_⟩
    have hh := r_lhalfB c2 hb T
    have s1 : (e : Int) - (hf c : Int) = ((e - hf c : Nat) : Int) := by omega
    have s2 : (c : Int) - (hf c : Int) = ((c - hf c : Nat) : Int) := by omega
    rw [show x + ((k + 1 : Nat) : Int) - 1 = x + 1 + (k : Int) - 1 by omega]
    refine while_step (S1 := T) (ρ1 := [some (.int ((c - hf c : Nat) : Int)), some (.int ((e - hf c : Nat) : Int)), some (.int (x + 1)), some (.int (hf c : Int))]) (S2 := T) ?_ ?_ q (by intro h; cases h)
    · simp [w1__law_many, h0, h1]
    · generalize hf c = w at *
      simp [l2__law_many, hh, h2, s1, s2]
theorem r_lmany {c e k : Nat} (h : gn c e k) (h1 : e ≤ c) (hb : c ≤ 1152921504606846976) (T : Sto) : m__law_many [.int (c : Int), .int (e : Int)] T = .ok (.int (k : Int)) T := by
  rcases h with ⟨rfl, rfl⟩ | ⟨h0, rfl, rfl⟩ | ⟨h0, g⟩
  · have w : sWhile w1__law_many l2__law_many [some (.int 0), some (.int (e : Int)), some (.int 0), none] T = .fl (.nx [some (.int 0), some (.int (e : Int)), some (.int 0), none]) T := while_done (by
      have : e = 0 := by omega
      subst this
      simp [w1__law_many])
    simp [m__law_many, b__law_many, w]
  · have n0 : ¬ (1 : Int) > (c : Int) := by omega
    have w : sWhile w1__law_many l2__law_many [some (.int (c : Int)), some (.int 0), some (.int 1), none] T = .fl (.nx [some (.int (c : Int)), some (.int 0), some (.int 1), none]) T := while_done (by simp [w1__law_many])
    have fm : fMin [.int (c : Int), .int 1] T = some (.int 1, T) := by
      rw [fMin_ev]
      by_cases z : (1 : Int) < (c : Int)
      · rw [if_pos z]
      · rw [if_neg z, show (c : Int) = 1 by omega]
    simp [m__law_many, b__law_many, -fMin_ev, fm, w]
  · obtain ⟨a, b, o', q⟩ := lmany_loop g h0 h1 hb 1 none T
    rw [show 1 + (k : Int) - 1 = (k : Int) by omega] at q
    have fm : fMin [.int (c : Int), .int 1] T = some (.int 1, T) := by
      rw [fMin_ev]
      by_cases z : (1 : Int) < (c : Int)
      · rw [if_pos z]
      · rw [if_neg z, show (c : Int) = 1 by omega]
    simp [m__law_many, b__law_many, -fMin_ev, fm, q]
def LQ (n : Nat) (T : Sto) (f : Nat) (Q : List D → Option D) (c e k : Nat) (ms : List D) (d : D) (U : Sto) : Prop := ∃ ty to ys os Q', d = .tup [ty, to] ∧ Stm (n + 2 * k) U f Q' ∧ Ext Q Q' ∧ Keep T U ∧ Jd Q' c e ms ys ty os to ∧ Sz (200 * k) ty ∧ Sz (200 * k) to
theorem lq_one {n : Nat} {T : Sto} {f : Nat} {Q : List D → Option D} (st : Stm n T f Q) (c : Nat) {m : D} (hm : Sz 100 m) : LQ n T f Q c c 1 [m] (.tup [m, m]) T :=
  ⟨_, _, [], [], Q, rfl, st.up (by omega), Ext.refl, Keep.refl, .eq, hm.up (by omega), hm.up (by omega)⟩
theorem g_tops : ∀ (a N : Nat) {c e k : Nat} (ms : List D) {n : Nat} {T : Sto} {f : Nat} {Q : List D → Option D}, Gw c e k → ms.length = k → 0 < e → e ≤ c → c ≤ 2 ^ a → a ≤ 60 → (∀ d ∈ ms, Sz 100 d) → Stm n T f Q → n + 2 * k < 90000 → k ≤ 61 → a < N →
    We (r__law_tops N [.ref f, .int (c : Int), .int (e : Int), .tup ms] T) (LQ n T f Q c e k ms) (fun _ _ => False) := by
  intro a
  induction a with
  | zero =>
    intro N c e k ms n T f Q g hl h0 h1 h2 _ hm st hn hk hN
    obtain ⟨N, rfl⟩ : ∃ M, N = M + 1 := ⟨N - 1, by omega⟩
    have hec : e = c := by simp at h2; omega
    subst hec
    cases g with
    | eq =>
      obtain ⟨m, xs, rfl, hx⟩ := cons_of hl
      cases List.length_eq_zero_iff.mp hx
      refine we_def ?_
      unfold b__law_tops
      simp -dsimp
      exact lq_one st e (hm m (by simp))
    | le h _ _ => omega
    | gt h _ _ => omega
  | succ a ih =>
    intro N c e k ms n T f Q g hl h0 h1 h2 ha hm st hn hk hN
    obtain ⟨N, rfl⟩ : ∃ M, N = M + 1 := ⟨N - 1, by omega⟩
    have hb : c ≤ 1152921504606846976 := by
      have e60 : (2 : Nat) ^ 60 = 1152921504606846976 := by decide
      have : 2 ^ (a + 1) ≤ 2 ^ 60 := Nat.pow_le_pow_right (n := 2) (by decide) ha
      omega
    refine we_def ?_
    unfold b__law_tops
    cases g with
    | eq =>
      obtain ⟨m, xs, rfl, hx⟩ := cons_of hl
      cases List.length_eq_zero_iff.mp hx
      simp -dsimp
      exact lq_one st c (hm m (by simp))
    | @le _ _ k g1 g2 g3 =>
      have c2 : 2 ≤ c := by omega
      obtain ⟨f1, f2, f3⟩ := hf_nat c2
      have f4 := hf_le c2 h2
      have hh := r_lhalfB c2 hb T
      obtain ⟨xs, m, rfl, hx⟩ := snoc_of hl
      obtain ⟨d, U, e1, ty, to, ys, os, Q1, rfl, u3, u4, u5, u6, u7, u8⟩ := (ih N xs (n := n) (T := T) (f := f) (Q := Q) g3 hx h0 g2 f4 (by omega) (fun d hd => hm d (List.mem_append_left _ hd)) st (by omega) (by omega) (by omega)).ok
      have ne : ¬ e = c := by omega
      have nei : ¬ (e : Int) = (c : Int) := by omega
      have nl : ¬ hf c < e := by omega
      have hmm : Sz 100 m := hm m (by simp)
      have kp := g3.pos
      have la := last_pk xs m
      have cl := cut_last xs m
      obtain ⟨V, tj, Q2, v1, v2, v3, v4, v5, v6⟩ := ask_joint u3 (by omega) u7 hmm (by omega) (by omega) (by omega)
      have hfn := u3.fn
      simp -dsimp [ne, nei, hh, nl, cl, e1, la, hfn, v1]
      exact ⟨_, _, _, _, Q2, rfl, v2.up (by omega), u4.trans v4, u5.trans v5, .le g1 g2 (u6.ext v4) v3, v6.up (by omega), u8.up (by omega)⟩
    | @gt _ _ k g1 g2 g3 =>
      have c2 : 2 ≤ c := by omega
      obtain ⟨f1, f2, f3⟩ := hf_nat c2
      have f4 := hf_le c2 h2
      have hh := r_lhalfB c2 hb T
      obtain ⟨m, xs, rfl, hx⟩ := cons_of hl
      obtain ⟨d, U, e1, ty, to, ys, os, Q1, rfl, u3, u4, u5, u6, u7, u8⟩ := (ih N xs (n := n) (T := T) (f := f) (Q := Q) g3 hx (by omega) (by omega) (by omega) (by omega) (fun d hd => hm d (List.mem_cons_of_mem _ hd)) st (by omega) (by omega) (by omega)).ok
      have ne : ¬ e = c := by omega
      have nei : ¬ (e : Int) = (c : Int) := by omega
      have hmm : Sz 100 m := hm m (by simp)
      have kp := g3.pos
      have co := cut_one m xs
      have s1 : (e : Int) - (hf c : Int) = ((e - hf c : Nat) : Int) := by omega
      have s2 : (c : Int) - (hf c : Int) = ((c - hf c : Nat) : Int) := by omega
      obtain ⟨V, tj, Q2, v1, v2, v3, v4, v5, v6⟩ := ask_joint u3 (by omega) hmm u7 (by omega) (by omega) (by omega)
      obtain ⟨V2, tk, Q3, z1, z2, z3, z4, z5, z6⟩ := ask_joint v2 (by omega) hmm u8 (by omega) (by omega) (by omega)
      have hfn := u3.fn
      have hfn2 := v2.fn
      simp -dsimp [ne, nei, hh, g2, co, s1, s2, e1, hfn, v1, hfn2, z1]
      exact ⟨_, _, _, _, Q3, rfl, z2.up (by omega), (u4.trans v4).trans z4, (u5.trans v5).trans z5, .gt g1 g2 (u6.ext (v4.trans z4)) (z4 _ _ v3) z3, v6.up (by omega), z6.up (by omega)⟩
/-- the marks of the younger and the elder row -/
def Gm (P : List D → Option D) (c e : Nat) (ms : List D) (d1 d2 : D) : Prop := ∃ ty to, Tops P c e ms ty to ∧ P [.str "row", .int (c : Int), ty] = some d1 ∧ P [.str "row", .int (e : Int), to] = some d2
theorem Gm.ext {P Q : List D → Option D} {c e : Nat} {ms : List D} {d1 d2 : D} (h : Gm P c e ms d1 d2) (x : Ext P Q) : Gm Q c e ms d1 d2 :=
  let ⟨ty, to, h1, h2, h3⟩ := h
  ⟨ty, to, h1.ext x, x _ _ h2, x _ _ h3⟩
theorem Gm.det {P : List D → Option D} {c e : Nat} {ms : List D} {d1 d2 d3 d4 : D} (h : Gm P c e ms d1 d2) (h' : Gm P c e ms d3 d4) : d1 = d3 ∧ d2 = d4 := by
  obtain ⟨ty, to, h1, h2, h3⟩ := h
  obtain ⟨ty', to', k1, k2, k3⟩ := h'
  obtain ⟨rfl, rfl⟩ := h1.det k1
  rw [h2] at k2
  rw [h3] at k3
  cases k2
  cases k3
  exact ⟨rfl, rfl⟩
theorem ask_row {n : Nat} {T : Sto} {f : Nat} {P : List D → Option D} (h : Stm n T f P) (hn : n < 100000) {c : Nat} (hc : c < 1152921504606846976) {x : D} (hx : Sz 60000 x) :
    ∃ U d Q, callV tabV (.ref f) [.tup [.str "row", .int (c : Int), x]] T = .ok d U ∧ Stm (n + 1) U f Q ∧ Q [.str "row", .int (c : Int), x] = some d ∧ Ext P Q ∧ Keep T U ∧ Sz 70000 d := by
  obtain ⟨U, d, Q, a1, a2, a3, a4, a5, a6⟩ := ask h hn (row_gt hc hx)
  exact ⟨U, d, Q, a1, a2, a3, a4, a5, An.rowB hc hx a6⟩
theorem r_rowsof {c e k : Nat} {ms : List D} {n : Nat} {T : Sto} {f : Nat} {Q : List D → Option D} (g : gn c e k) (hl : ms.length = k) (h1 : e ≤ c) (hc : c < 1152921504606846976) (hk : k ≤ 61) (hm : ∀ d ∈ ms, Sz 100 d) (st : Stm n T f Q) (hn : n < 80000) :
    ∃ d1 d2 U Q', m__law_rows_of [.ref f, .int (c : Int), .int (e : Int), .tup ms] T = .ok (.tup [d1, d2]) U ∧ Stm (n + 300) U f Q' ∧ Ext Q Q' ∧ Keep T U ∧ Gm Q' c e ms d1 d2 ∧ Sz 70000 d1 ∧ Sz 70000 d2 := by
  obtain ⟨U, tv, Q1, a1, a2, a3, a4, a5, a6⟩ := ask_void st (by omega)
  have hfn := st.fn
  -- the tops, then the rest
  have fin : ∀ {V : Sto} {Q2 : List D → Option D} {ty to : D}, Stm (n + 1 + 2 * k) V f Q2 → Ext Q Q2 → Keep T V → Tops Q2 c e ms ty to → Sz 20000 ty → Sz 20000 to → (∀ W d1 V1 d2, callV tabV (.ref f) [.tup [.str "row", .int (c : Int), ty]] V = .ok d1 V1 → isFn (.ref f) V = true → isFn (.ref f) V1 = true → callV tabV (.ref f) [.tup [.str "row", .int (e : Int), to]] V1 = .ok d2 W → m__law_rows_of [.ref f, .int (c : Int), .int (e : Int), .tup ms] T = .ok (.tup [d1, d2]) W) →
      ∃ d1 d2 U Q', m__law_rows_of [.ref f, .int (c : Int), .int (e : Int), .tup ms] T = .ok (.tup [d1, d2]) U ∧ Stm (n + 300) U f Q' ∧ Ext Q Q' ∧ Keep T U ∧ Gm Q' c e ms d1 d2 ∧ Sz 70000 d1 ∧ Sz 70000 d2 := fun {V Q2 ty to} b1 b2 b3 b4 b5 b6 run => by
    obtain ⟨V1, d1, Q3, v1, v2, v3, v4, v5, v6⟩ := ask_row b1 (by omega) hc (b5.up (by decide))
    obtain ⟨W, d2, Q4, z1, z2, z3, z4, z5, z6⟩ := ask_row v2 (by omega) (c := e) (by omega) (b6.up (by decide))
    exact ⟨d1, d2, W, Q4, run W d1 V1 d2 v1 b1.fn v2.fn z1, z2.up (by omega), (b2.trans v4).trans z4, (b3.trans v5).trans z5, ⟨ty, to, b4.ext (v4.trans z4), z4 _ _ v3, z3⟩, v6, z6⟩
  rcases g with ⟨rfl, rfl⟩ | ⟨h0, rfl, rfl⟩ | ⟨h0, g⟩
  · have e0 : e = 0 := by omega
    subst e0
    refine fin (V := U) (ty := tv) (to := tv) (a2.up (by omega)) a4 a5 (.inr ⟨rfl, a3, .inl ⟨rfl, rfl⟩⟩) (a6.up (by omega)) (a6.up (by omega)) fun W d1 V1 d2 r1 r2 r3 r4 => ?_
    simp only [Int.natCast_zero] at r1 r4 ⊢
    simp [m__law_rows_of, b__law_rows_of, hfn, a1, r1, r2, r3, r4]
  · obtain ⟨m, xs, rfl, hx⟩ := cons_of hl
    cases List.length_eq_zero_iff.mp hx
    refine fin (V := U) (ty := m) (to := tv) (a2.up (by omega)) a4 a5 (.inr ⟨rfl, a3, .inr ⟨h0, rfl⟩⟩) ((hm m (by simp)).up (by omega)) (a6.up (by omega)) fun W d1 V1 d2 r1 r2 r3 r4 => ?_
    simp only [Int.natCast_zero] at r4 ⊢
    simp [m__law_rows_of, b__law_rows_of, hfn, a1, h0, r1, r2, r3, r4]
  · obtain ⟨d, V, e1, ty, to, ys, os, Q2, rfl, u3, u4, u5, u6, u7, u8⟩ := (g_tops 60 70 ms (n := n + 1) (T := U) (f := f) (Q := Q1) g hl h0 h1 (by rw [show (2 : Nat) ^ 60 = 1152921504606846976 by decide]; omega) (Nat.le_refl _) hm a2 (by omega) hk (by decide)).ok
    have e1' : m__law_tops [.ref f, .int (c : Int), .int (e : Int), .tup ms] U = .ok (.tup [ty, to]) V := e1
    refine fin (V := V) u3 (a4.trans u4) (a5.trans u5) (.inl ⟨h0, ys, os, u6⟩) (u7.up (by omega)) (u8.up (by omega)) fun W d1 V1 d2 r1 r2 r3 r4 => ?_
    simp [m__law_rows_of, b__law_rows_of, hfn, a1, h0, e1', r1, r2, r3, r4]
/-- under a head -/
theorem r_ganswer {c e k : Nat} {ms : List D} {n : Nat} {T : Sto} {f : Nat} {Q : List D → Option D} {mk : D} (g : gn c e k) (hl : ms.length = k) (h1 : e ≤ c) (hc : c < 1152921504606846976) (hk : k ≤ 61) (hm : ∀ d ∈ ms, Sz 100 d) (st : Stm n T f Q) (hn : n < 80000) (hmk : Sz 80000 mk) :
    ∃ d1 d2 U Q', Gm Q' c e ms d1 d2 ∧ Stm (n + 300) U f Q' ∧ Ext Q Q' ∧ Keep T U ∧ Sz 70000 d2 ∧ Sz 70000 d1 ∧ ((d1 = mk ∧ m_growth_answer [.ref f, .tup [.int (c : Int), mk], .int (e : Int), .tup ms] T = .ok d2 U) ∨ (d1 ≠ mk ∧ ∃ V Q2, Stm (n + 300) V f Q2 ∧ Ext Q Q2 ∧ Keep T V ∧ Q2 = Q2 ∧ m_growth_answer [.ref f, .tup [.int (c : Int), mk], .int (e : Int), .tup ms] T = .ex ⟨"Broken", [("came", d1), ("due", mk)]⟩ V)) := by
  obtain ⟨d, V, e1, y1, o1, ys, os, ty, to, Q1, rfl, a1, a2, a3, a4, a5, a6, a7, a8, a9⟩ := (r_gterms g hl h1 hc hk hm st hn).ok
  obtain ⟨V1, d1, Q2, v1, v2, v3, v4, v5, v6⟩ := ask_row a3 (by omega) hc (a7.up (by decide))
  obtain ⟨W, d2, Q3, z1, z2, z3, z4, z5, z6⟩ := ask_row v2 (by omega) (c := e) (by omega) (a8.up (by decide))
  have hh := r_ishead (T := T) hc (r_stamp (hmk.up (by decide)) T)
  have i0 : atI [.int (c : Int), mk] 0 = some (.int (c : Int)) := rfl
  have i1 : atI [.int (c : Int), mk] 1 = some mk := rfl
  have p1 := pick a1 (-1) (last_pk ys _)
  have p2 := pick (v5 _ _ a2 (by simp)) (-1) (last_pk os _)
  have hf1 := a3.fn
  have hf2 := v2.fn
  obtain ⟨b, eb1, eb2⟩ := eqD_pt2 (S := V1) v6.pt hmk.pt
  refine ⟨d1, d2, W, Q3, ⟨ty, to, a6.ext (v4.trans z4), z4 _ _ v3, z3⟩, z2.up (by omega), (a4.trans v4).trans z4, (a5.trans v5).trans z5, z6, v6, ?_⟩
  by_cases hd : d1 = mk
  · have hb : b = true := eb2.mpr hd
    subst hb
    exact .inl ⟨hd, by simp [m_growth_answer, b_growth_answer, hh, i0, i1, e1, p1, p2, -fItem_ref, hf1, hf2, v1, z1, eb1]⟩
  · have hb : b = false := by
      cases b with
      | false => rfl
      | true => exact absurd (eb2.mp rfl) hd
    subst hb
    exact .inr ⟨hd, V1, Q2, v2.up (by omega), a4.trans v4, a5.trans v5, rfl, by simp [m_growth_answer, b_growth_answer, hh, i0, i1, e1, p1, -fItem_ref, hf1, v1, eb1]⟩

/-- a thing drawn beside the store: no whole number from 0 to below m -/
def Nel (m : Int) (T : Sto) (d : D) (U : Sto) : Prop := (∃ G, U = T ++ G) ∧ Pv d U ∧ blw d m = false
theorem Nel.non {m : Int} {T G : Sto} : Nel m T .non (T ++ G) := ⟨⟨_, rfl⟩, .inr (.inl rfl), rfl⟩
theorem Nel.bl {m : Int} {T G : Sto} {b : Bool} : Nel m T (.bl b) (T ++ G) := ⟨⟨_, rfl⟩, .inr (.inr (.inl ⟨_, rfl⟩)), rfl⟩
theorem Nel.str {m : Int} {T G : Sto} {z : Str} : Nel m T (.str z) (T ++ G) := ⟨⟨_, rfl⟩, .inr (.inr (.inr (.inl ⟨_, rfl⟩))), rfl⟩
theorem Nel.tup {m : Int} {T G : Sto} {xs : List D} : Nel m T (.tup xs) (T ++ G) := ⟨⟨_, rfl⟩, .inr (.inr (.inr (.inr (.inl ⟨_, rfl⟩)))), rfl⟩
theorem Nel.int {m i : Int} {T G : Sto} (h : i < 0 ∨ m ≤ i) : Nel m T (.int i) (T ++ G) := ⟨⟨_, rfl⟩, .inl ⟨_, rfl⟩, blw_int h⟩
theorem Nel.lst {m : Int} {T G : Sto} {r : Nat} {xs : List D} (h : (T ++ G)[r]? = some (.lst xs)) : Nel m T (.ref r) (T ++ G) := ⟨⟨_, rfl⟩, .inr (.inr (.inr (.inr (.inr ⟨_, rfl, .inl ⟨_, h⟩⟩)))), rfl⟩
theorem Nel.dk {m : Int} {T G : Sto} {r : Nat} {xs : List (Key × D)} (h : (T ++ G)[r]? = some (.dk xs)) : Nel m T (.ref r) (T ++ G) := ⟨⟨_, rfl⟩, .inr (.inr (.inr (.inr (.inr ⟨_, rfl, .inr ⟨_, h⟩⟩)))), rfl⟩
theorem r_nocount (c : Int) {m : Nat} (hm : m < 1152921504606846976) (T : Sto) : We (m__law_no_count [.int c, .int (m : Int)] T) (Nel 1152921504606846976 T) (fun _ _ => False) := by
  have csh := csh60
  have lc := log_c' hm
  refine we_def ?_
  unfold b__law_no_count
  rcases mod9 c with h | h | h | h | h | h | h | h | h <;> simp -dsimp [csh, lc, h]
  · exact Nel.non
  · exact Nel.bl
  · exact Nel.bl
  · exact Nel.str
  · exact Nel.int (by omega)
  · exact Nel.int (by omega)
  · exact Nel.int (by omega)
  · exact Nel.tup
  · exact Nel.lst (xs := [.int (m : Int)]) (by simp)
theorem r_noelder (c : Int) {m : Nat} (hm : m < 1152921504606846976) (T : Sto) : We (m__law_no_elder [.int c, .int (m : Int)] T) (Nel ((m : Int) + 1) T) (fun _ _ => False) := by
  have k30 : fPow (.int 10) (.int 30) T = some (.int 1000000000000000000000000000000, T) := by simp [p30]
  generalize hn : c / 9 % 1000000000000000000000000000000 = n
  have n0 : 0 ≤ n := by omega
  have n1 : n < 1000000000000000000000000000000 := by omega
  have hm0 : (0 : Int) < (m : Int) + 1 := by omega
  have l0 := Int.emod_nonneg n (show (m : Int) + 1 ≠ 0 by omega)
  have l1 := Int.emod_lt_of_pos n hm0
  obtain ⟨w, hw⟩ : ∃ w : Nat, n % ((m : Int) + 1) = (w : Int) := ⟨(n % ((m : Int) + 1)).toNat, by omega⟩
  have lw := log_big (n := (w : Int)) (by omega) (Int.lt_trans (show (w : Int) < 1152921504606846977 by omega) (by decide))
  have lw' : w.log2 < 1920 := by simpa using lw
  refine we_def ?_
  unfold b__law_no_elder
  rcases mod9 c with h | h | h | h | h | h | h | h | h <;> simp -dsimp [k30, -fPow_ev, hn, hm0, hw, lw', h]
  · exact Nel.non
  · exact Nel.bl
  · exact Nel.bl
  · exact Nel.str
  · exact Nel.int (by omega)
  · exact Nel.int (by omega)
  · exact Nel.int (by omega)
  · exact Nel.tup
  · exact Nel.lst (xs := [.int 0]) (by simp)
/-- no marks, as many as asked -/
def Jm (n : Nat) (d : D) (T : Sto) : Prop := ∀ U, Keep T U → m_is_marks [d, .int (n : Int)] U = .ok (.bl false) U
def Jmq (n : Nat) (T : Sto) (d : D) (U : Sto) : Prop := (∃ G, U = T ++ G) ∧ Jm n d U
theorem jm_non {n : Nat} {T : Sto} : Jm n .non T := fun U _ => by simp [m_is_marks, b_is_marks]
theorem jm_len {n : Nat} {T : Sto} {ms : List D} (h : ms.length ≠ n) (hl : ms.length ≤ 1000) : Jm n (.tup ms) T := fun U _ => r_marksL h hl U
theorem jm_lst {n r : Nat} {T : Sto} {xs : List D} (h : T[r]? = some (.lst xs)) : Jm n (.ref r) T := fun U k => r_marksR (k _ _ h (by simp))
theorem r_nopaper (c : Int) {ms : List D} (hm : ∀ d ∈ ms, Pt d) (hl : ms.length ≤ 100) (T : Sto) : We (m__law_no_paper [.int c, .tup ms] T) (Jmq ms.length T) (fun _ _ => False) := by
  have l16 : ms.length ≤ 16777216 := by omega
  have l17 : ms.length + 1 ≤ 16777216 := by omega
  obtain ⟨spot, hs, hs2⟩ : ∃ k : Nat, c / 5 % (if (ms.length : Int) > 1 then (ms.length : Int) else 1) = (k : Int) ∧ k < max 1 ms.length := by
    by_cases h : (ms.length : Int) > 1
    · rw [if_pos h]
      have a := Int.emod_nonneg (c / 5) (b := (ms.length : Int)) (by omega)
      have b := Int.emod_lt_of_pos (c / 5) (b := (ms.length : Int)) (by omega)
      exact ⟨(c / 5 % (ms.length : Int)).toNat, by omega, by omega⟩
    · rw [if_neg h]
      exact ⟨0, by omega, by omega⟩
  have hp : 0 < (if (ms.length : Int) > 1 then (ms.length : Int) else 1) := by split <;> omega
  have fm : fMax [.int 1, .int (ms.length : Int)] T = some (.int (if (ms.length : Int) > 1 then (ms.length : Int) else 1), T) := fMax_ev
  obtain ⟨z, G, e1, e2, e3⟩ := r_nost (c / 300) T
  generalize (if (ms.length : Int) > 1 then (ms.length : Int) else 1) = W at *
  have tg : Nel 0 T .non (T ++ G) := Nel.non
  refine we_def ?_
  unfold b__law_no_paper
  have four : (c % 5 < 4 ∨ ms.length = 0) → (c % 5 % 4 = 0 ∨ c % 5 % 4 = 1 ∨ c % 5 % 4 = 2 ∨ c % 5 % 4 = 3) := fun _ => by omega
  simp -dsimp [l16, l17, -fMax_ev, fm, hp, hs, e1]
  have q1 : (T ++ (G ++ [Ob.lst ms, .lst [.non, .ref (T.length + G.length), .tup (ms ++ [.str "a"]), .tup (ms ++ [z])]]))[T.length + G.length + 1]? = some (.lst [.non, .ref (T.length + G.length), .tup (ms ++ [.str "a"]), .tup (ms ++ [z])]) := by
    rw [← List.append_assoc, show T.length + G.length + 1 = (T ++ G).length + 1 by simp, app_at]
    rfl
  have q2 : (T ++ (G ++ [Ob.lst ms, .lst [.non, .ref (T.length + G.length), .tup (ms ++ [.str "a"]), .tup (ms ++ [z])]]))[T.length + G.length]? = some (.lst ms) := by
    rw [← List.append_assoc, show T.length + G.length = (T ++ G).length by simp, app_at0]
    rfl
  have q3 : Js z (T ++ (G ++ [Ob.lst ms, .lst [.non, .ref (T.length + G.length), .tup (ms ++ [.str "a"]), .tup (ms ++ [z])]])) := by
    rw [← List.append_assoc]
    exact e2.keep Keep.app
  have q0 : ∃ X, T ++ (G ++ [Ob.lst ms, .lst [.non, .ref (T.length + G.length), .tup (ms ++ [.str "a"]), .tup (ms ++ [z])]]) = T ++ X := ⟨_, rfl⟩
  generalize T ++ (G ++ [Ob.lst ms, .lst [.non, .ref (T.length + G.length), .tup (ms ++ [.str "a"]), .tup (ms ++ [z])]]) = U at *
  generalize T.length + G.length = L at *
  by_cases h6 : c % 5 < 4 ∨ ms.length = 0
  · have hl0 : (c % 5 < 4 ∨ (ms.length : Int) = 0) := by omega
    have j1 : Jm ms.length (.tup (ms ++ [.str "a"])) U := jm_len (by simp) (by simp; omega)
    have j2 : Jm ms.length (.tup (ms ++ [z])) U := jm_len (by simp) (by simp; omega)
    have fin : ∃ d i, c % 5 % 4 = i ∧ atI [D.non, .ref L, .tup (ms ++ [.str "a"]), .tup (ms ++ [z])] i = some d ∧ Jmq ms.length T d U := by
      rcases four h6 with h | h | h | h
      · exact ⟨.non, _, h, rfl, q0, jm_non⟩
      · exact ⟨.ref L, _, h, rfl, q0, jm_lst q2⟩
      · exact ⟨.tup (ms ++ [.str "a"]), _, h, rfl, q0, j1⟩
      · exact ⟨.tup (ms ++ [z]), _, h, rfl, q0, j2⟩
    obtain ⟨d, i, hi, hf, hq⟩ := fin
    by_cases h5 : c % 5 < 4
    · simp -dsimp only [h5, hi, hf, if_true, Option.map_some, R.ofO_some, we_ok]
      exact hq
    · have h0 : ms = [] := List.length_eq_zero_iff.mp (by omega)
      rw [if_neg h5, if_pos h0]
      simp -dsimp only [hi, hf, Option.map_some, R.ofO_some, we_ok]
      exact hq
  · have h5 : ¬ c % 5 < 4 := by omega
    have h0 : ¬ (ms.length : Int) = 0 := by omega
    have h0n : ¬ ms.length = 0 := by omega
    have hk : spot < ms.length := by omega
    have t1 := tk ms (k := spot) (by omega)
    have t2 := dp ms (k := spot + 1) (by omega)
    have h0m : ¬ ms = [] := fun z => h0n (by rw [z]; rfl)
    rw [show (((spot + 1 : Nat) : Int)) = (spot : Int) + 1 by omega] at t2
    have la : (ms.take spot).length + (ms.drop (spot + 1)).length ≤ 16777216 := by simp; omega
    have lb : (ms.take spot).length + 1 ≤ 16777216 := by simp; omega
    have lc : (ms.take spot).length + 1 + (ms.drop (spot + 1)).length ≤ 16777216 := by simp; omega
    have A1 : Jm ms.length (.tup (ms.take spot ++ ms.drop (spot + 1))) U := jm_len (by simp; omega) (by simp; omega)
    have A2 : Jm ms.length (.tup (ms.take spot ++ [z] ++ ms.drop (spot + 1))) U := fun V k => by
      have hlen : (ms.take spot ++ [z] ++ ms.drop (spot + 1)).length = ms.length := by simp; omega
      have := r_marksB (ms := ms.take spot ++ [z] ++ ms.drop (spot + 1)) (k := spot) (T := V) (by rw [hlen]; exact hk) (fun j d hj hd => by
        rw [List.append_assoc, List.getElem?_append_left (by simp; omega), List.getElem?_take] at hd
        rw [if_pos hj] at hd
        exact hm d (List.mem_of_getElem? hd)) (z := z) (by
        rw [List.append_assoc, List.getElem?_append_right (by simp; omega)]
        simp
        rw [show spot - min spot ms.length = 0 by omega]
        rfl) (q3.keep k) (by rw [hlen]; omega)
      rw [hlen] at this
      exact this
    generalize ms.take spot = X at *
    generalize ms.drop (spot + 1) = Y at *
    by_cases h7 : c / 5 / 60 % 2 = 0
    · rw [if_neg h5, if_neg h0m, if_pos h7, t1, t2, if_pos la]
      exact ⟨q0, A1⟩
    · rw [if_neg h5, if_neg h0m, if_neg h7]
      have lb' : X.length ≤ 16777215 := by omega
      simp -dsimp [t1, t2, lb', lc, -List.append_assoc]
      exact ⟨q0, A2⟩

def isF (k : Int) (i : Nat) : Bool := decide ((i : Int) = k) || decide ((i : Int) = 5)
theorem isF_all {k : Int} (h0 : 0 ≤ k) (h5 : k < 5) : ([decide (k = 0), decide (k = 1), decide (k = 2), decide (k = 3), decide (k = 4), true] : List Bool) = (List.range 6).map (isF k) := by
  have : k = 0 ∨ k = 1 ∨ k = 2 ∨ k = 3 ∨ k = 4 := by omega
  rcases this with rfl | rfl | rfl | rfl | rfl <;> decide
theorem six {k : Int} (h0 : 0 ≤ k) (h5 : k < 5) : [D.bl (decide (k = 0)), .bl (decide (k = 1)), .bl (decide (k = 2)), .bl (decide (k = 3)), .bl (decide (k = 4)), .bl true] = ((List.range 6).map (isF k)).map D.bl := by
  rw [← isF_all h0 h5]
  rfl
theorem r_is {d : D} {T : Sto} {k : Int} (h : Cau d T k) : ∃ G, m__law_is [d, .int k] T = .ok (.bl true) (T ++ G) := by
  rcases h with ⟨rfl, rfl⟩ | ⟨n, C, fs, rfl, h, hk⟩
  · exact ⟨[], by simp [m__law_is, b__law_is]⟩
  · obtain ⟨k0, k5, _, a0, a1, a2, a3, a4, a5⟩ := hk.isa
    have kn : ¬ k < 0 := by omega
    have n5 : ¬ (5 : Int) = k := by omega
    have s6 : small62 6 = true := small62_is (by decide)
    have hX := six k0 k5
    obtain ⟨d, U, e, rfl, G, hG⟩ : ∃ d U, m__law_is [.ref n, .int k] T = .ok d U ∧ d = .bl true ∧ ∃ G, U = T ++ G := by
      refine We.ok (Q := fun d U => d = .bl true ∧ ∃ G, U = T ++ G) (we_def ?_)
      unfold b__law_is
      have h2 := at_more (l := [Ob.lst [.bl (decide (k = 0)), .bl (decide (k = 1)), .bl (decide (k = 2))]]) h
      generalize decide (k = 0) = b0 at *
      generalize decide (k = 1) = b1 at *
      generalize decide (k = 2) = b2 at *
      generalize decide (k = 3) = b3 at *
      generalize decide (k = 4) = b4 at *
      simp -dsimp [h, h2, a0, a1, a2, a3, a4, a5, kn, s6]
      rw [hX, show ∀ a b c : Ob, T ++ [a, b, c, Ob.lst []] = T ++ [a, b, c] ++ [Ob.lst []] from fun _ _ _ => by simp, show T.length + 3 = (T ++ [Ob.lst [.bl b0, .bl b1, .bl b2], .lst [.bl b3, .bl b4, .bl true], .lst (((List.range 6).map (isF k)).map D.bl)]).length by simp]
      have q0 : (T ++ [Ob.lst [.bl b0, .bl b1, .bl b2], .lst [.bl b3, .bl b4, .bl true], .lst (((List.range 6).map (isF k)).map D.bl)])[T.length + 2]? = some (.lst (((List.range 6).map (isF k)).map D.bl)) := by simp
      have q1 : ∃ G, T ++ [Ob.lst [.bl b0, .bl b1, .bl b2], .lst [.bl b3, .bl b4, .bl true], .lst (((List.range 6).map (isF k)).map D.bl)] = T ++ G := ⟨_, rfl⟩
      generalize T ++ [Ob.lst [.bl b0, .bl b1, .bl b2], .lst [.bl b3, .bl b4, .bl true], .lst (((List.range 6).map (isF k)).map D.bl)] = T1 at *
      generalize T.length + 2 = L at *
      refine we_lcm (fun i => .bl (isF k i)) (by decide) (fun i S' hi _ => ?_) (fun _ => rfl) (fun G => ?_)
      · refine ⟨.int (0 + i), rfl, _, rfl, [], ?_⟩
        by_cases a : (i : Int) = k <;> by_cases b : (i : Int) = 5 <;> simp [e1__law_is, isF, a, b, n5]
      · have l1 := lstAt_more (l := .lst ((List.range 6).map fun i => .bl (isF k i)) :: G) (lst_of q0)
        have l3 : lstAt (T1 ++ .lst ((List.range 6).map fun i => .bl (isF k i)) :: G) T1.length = some (((List.range 6).map (isF k)).map D.bl) := by
          rw [List.map_map]
          simp
        have e3 := eqD_bls l1 l3
        rw [decide_eq_true rfl] at e3
        rw [show (itR 0 6).cnt = 6 from rfl]
        simp -dsimp [e3]
        obtain ⟨G1, hG1⟩ := q1
        exact ⟨G1 ++ .lst ((List.range 6).map fun i => .bl (isF k i)) :: G, by rw [hG1, List.append_assoc]⟩
    exact ⟨G, by rw [e, hG]⟩
theorem kd1 : Kd 1 "NoPlace" := .inr (.inl ⟨rfl, rfl⟩)
theorem kd2 : Kd 2 "NoPaper" := .inr (.inr (.inl ⟨rfl, rfl⟩))
theorem pv_int (i : Int) (T : Sto) : Pv (.int i) T := .inl ⟨i, rfl⟩

theorem r_other (c : Int) {mk : D} (h : Sz 70000 mk) (T : Sto) : ∃ d G, m__law_other [.int c, mk] T = .ok d (T ++ G) ∧ Sz 80000 d := by
  by_cases h0 : c % 3 > 0
  · obtain ⟨d, G, e, k⟩ := r_stampby (c / 3) T
    exact ⟨d, G, by simp [m__law_other, b__law_other, h0, e], k.up (by decide)⟩
  · rcases h with ⟨n, rfl, n0, n1⟩ | ⟨z, rfl, z1, z2⟩
    · exact ⟨.str (num n), [], by simp [m__law_other, b__law_other, h0, log_big n0 n1], .inr ⟨_, rfl, by have := len_num n0 n1; omega, num_codes n0⟩⟩
    · have l0 : ("0" : Str).length = 1 := by decide +kernel
      have : z.length + ("0" : Str).length ≤ 16777216 := by omega
      exact ⟨.str (z ++ "0"), [], by simp [m__law_other, b__law_other, h0, this], .inr ⟨_, rfl, by rw [Str.length_append]; omega, app_codes z2 (by decide +kernel)⟩⟩
theorem four {V : D → Prop} {ys : List D} (h : ys.length = 4) (hv : ∀ (i : Nat) y, ys[i]? = some y → V y) : ∃ a b c d, ys = [a, b, c, d] ∧ V a ∧ V b ∧ V c ∧ V d := by
  match ys, h with
  | [a, b, c, d], _ => exact ⟨a, b, c, d, rfl, hv 0 a rfl, hv 1 b rfl, hv 2 c rfl, hv 3 d rfl⟩
theorem s6_4 : small62 4 = true := small62_is (by decide)
theorem s6_8 : small62 8 = true := small62_is (by decide)

/-- which one is asked -/
noncomputable def run2 (w : Int) (f : Nat) (top pl pap : D) : Sto → R D := if w = 0 then m_growth_terms [.ref f, top, pl, pap] else m_growth_answer [.ref f, top, pl, pap]
theorem caught_ok {w : Int} {f : Nat} {top pl pap d : D} {T U : Sto} (h : run2 w f top pl pap T = .ok d U) : m__law_caught [.int w, .ref f, top, pl, pap] T = .ok .non U := by
  unfold run2 at h
  by_cases h0 : w = 0
  · rw [if_pos h0] at h
    simp [m__law_caught, b__law_caught, h0, h]
  · rw [if_neg h0] at h
    simp [m__law_caught, b__law_caught, h0, h]
theorem caught_ex {w k : Int} {f : Nat} {top pl pap : D} {C : Str} {fs : List (Str × D)} {T U : Sto} (h : run2 w f top pl pap T = .ex ⟨C, fs⟩ U) (hk : Kd k C) : m__law_caught [.int w, .ref f, top, pl, pap] T = .ok (.ref U.length) (U ++ [.exn C fs]) ∧ Cau (.ref U.length) (U ++ [.exn C fs]) k := by
  obtain ⟨_, _, hs, _⟩ := hk.isa
  refine ⟨?_, .inr ⟨_, C, fs, rfl, by simp, hk⟩⟩
  unfold run2 at h
  by_cases h0 : w = 0
  · rw [if_pos h0] at h
    simp [m__law_caught, b__law_caught, h0, h, hs]
  · rw [if_neg h0] at h
    simp [m__law_caught, b__law_caught, h0, h, hs]
theorem gt_noplace {f : Nat} {top pl pap : D} {T : Sto} (h1 : Pv top T) (h2 : Pv pl T) (h : blw top 1152921504606846976 = false ∨ ∃ c : Nat, top = .int c ∧ c < 1152921504606846976 ∧ blw pl ((c : Int) + 1) = false) : m_growth_terms [.ref f, top, pl, pap] T = .ex ⟨"NoPlace", []⟩ T := by
  have csh := csh60
  have rb1 := r_belowG h1 1152921504606846976
  rcases h with h | ⟨c, rfl, hc, h⟩
  · rw [h] at rb1
    simp [m_growth_terms, b_growth_terms, csh, rb1]
  · have rb2 := r_belowG h2 ((c : Int) + 1)
    rw [h] at rb2
    have rb3 : m_is_below [.int (c : Int), .int 1152921504606846976] T = .ok (.bl true) T := r_below (m := 1152921504606846976) hc T
    simp [m_growth_terms, b_growth_terms, csh, rb3, rb2]
theorem gt_nopaper {f c e k : Nat} {pap : D} {T : Sto} (g : gn c e k) (h1 : e ≤ c) (hc : c < 1152921504606846976) (hj : Jm k pap T) : m_growth_terms [.ref f, .int (c : Int), .int (e : Int), pap] T = .ex ⟨"NoPaper", []⟩ T := by
  have csh := csh60
  have rb1 : m_is_below [.int (c : Int), .int 1152921504606846976] T = .ok (.bl true) T := r_below (m := 1152921504606846976) hc T
  have rb2 : m_is_below [.int (e : Int), .int ((c : Int) + 1)] T = .ok (.bl true) T := r_below (m := c + 1) (by omega) T
  have rh := r_howG g h1 (by omega) T
  have rm := hj T Keep.refl
  simp [m_growth_terms, b_growth_terms, csh, rb1, rb2, rh, rm]
theorem ga_nohead {f : Nat} {head pl pap : D} {T : Sto} (h : Jh head T) : m_growth_answer [.ref f, head, pl, pap] T = .ex ⟨"NoHead", []⟩ T := by
  have e := h T Keep.refl
  simp [m_growth_answer, b_growth_answer, e]
theorem ga_ex {f c : Nat} {mk pl pap : D} {x : Exn} {T U : Sto} (h : m_is_head [.tup [.int (c : Int), mk]] T = .ok (.bl true) T) (e : m_growth_terms [.ref f, .int (c : Int), pl, pap] T = .ex x U) : m_growth_answer [.ref f, .tup [.int (c : Int), mk], pl, pap] T = .ex x U := by
  have i0 : atI [.int (c : Int), mk] 0 = some (.int (c : Int)) := rfl
  simp [m_growth_answer, b_growth_answer, e, h, i0]
/-- what is handed in, and whether it is wrong -/
structure Hin (c p k : Nat) (ms : List D) (b0 b1 b2 : Bool) (top pl pap : D) (S : Sto) : Prop where
  t0 : b0 = false → top = .int (c : Int)
  t1 : b0 = true → Pv top S ∧ blw top 1152921504606846976 = false
  p0 : b1 = false → pl = .int (p : Int)
  p1 : b1 = true → Pv pl S ∧ blw pl ((c : Int) + 1) = false
  a0 : b2 = false → pap = .tup ms
  a1 : b2 = true → Jm k pap S
theorem Hin.keep {c p k : Nat} {ms : List D} {b0 b1 b2 : Bool} {top pl pap : D} {S U : Sto} (h : Hin c p k ms b0 b1 b2 top pl pap S) (kk : Keep S U) : Hin c p k ms b0 b1 b2 top pl pap U :=
  ⟨h.t0, fun z => let ⟨a, b⟩ := h.t1 z; ⟨a.keep kk, b⟩, h.p0, fun z => let ⟨a, b⟩ := h.p1 z; ⟨a.keep kk, b⟩, h.a0, fun z => fun V kv => h.a1 z V (kk.trans kv)⟩
theorem Hin.noplace {c p k f : Nat} {ms : List D} {b0 b1 b2 : Bool} {top pl pap : D} {S : Sto} (h : Hin c p k ms b0 b1 b2 top pl pap S) (hc : c < 1152921504606846976) (hb : (b0 || b1) = true) : m_growth_terms [.ref f, top, pl, pap] S = .ex ⟨"NoPlace", []⟩ S := by
  have hp : Pv pl S := by
    cases b1 with
    | false => rw [h.p0 rfl]; exact pv_int _ _
    | true => exact (h.p1 rfl).1
  cases b0 with
  | false =>
    rw [h.t0 rfl]
    cases b1 with
    | false => cases hb
    | true => exact gt_noplace (pv_int _ _) hp (.inr ⟨c, rfl, hc, (h.p1 rfl).2⟩)
  | true =>
    obtain ⟨a, b⟩ := h.t1 rfl
    exact gt_noplace a hp (.inl b)
theorem Hin.nopaper {c p k f : Nat} {ms : List D} {b0 b1 b2 : Bool} {top pl pap : D} {S : Sto} (h : Hin c p k ms b0 b1 b2 top pl pap S) (g : gn c p k) (hp : p ≤ c) (hc : c < 1152921504606846976) (hb : (b0 || b1) = false) (hb2 : b2 = true) : m_growth_terms [.ref f, top, pl, pap] S = .ex ⟨"NoPaper", []⟩ S := by
  have h0 : b0 = false := by cases b0 <;> simp_all
  have h1 : b1 = false := by cases b1 <;> simp_all
  rw [h.t0 h0, h.p0 h1]
  exact gt_nopaper g hp hc (h.a1 hb2)
section
variable {n c p k : Nat} {ms : List D} {f : Nat} {Q : List D → Option D} {b0 b1 b2 : Bool} {top pl pap : D} {S : Sto}
theorem r_c0 (g : gn c p k) (hp : p ≤ c) (hc : c < 1152921504606846976) (hk : k ≤ 61) (hl : ms.length = k) (hm : ∀ d ∈ ms, Sz 100 d) (st : Stm n S f Q) (hn : n < 70000) (h : Hin c p k ms b0 b1 b2 top pl pap S) :
    ∃ d U Q', m__law_caught [.int 0, .ref f, top, pl, pap] S = .ok d U ∧ Cau d U (fst' [false, b0 || b1, b2] 0) ∧ Stm (n + 300) U f Q' ∧ Ext Q Q' ∧ Keep S U := by
  have ex : ∀ {C : Str} {k : Int}, m_growth_terms [.ref f, top, pl, pap] S = .ex ⟨C, []⟩ S → Kd k C → fst' [false, b0 || b1, b2] 0 = k → ∃ d U Q', m__law_caught [.int 0, .ref f, top, pl, pap] S = .ok d U ∧ Cau d U (fst' [false, b0 || b1, b2] 0) ∧ Stm (n + 300) U f Q' ∧ Ext Q Q' ∧ Keep S U := fun {C k} e1 hk ek => by
    obtain ⟨e3, e4⟩ := caught_ex (w := 0) e1 hk
    rw [ek]
    exact ⟨_, _, Q, e3, e4, st.more.up (by omega), Ext.refl, Keep.app⟩
  by_cases hb : (b0 || b1) = true
  · exact ex (h.noplace hc hb) kd1 (by simp [fst', hb])
  · have hb : (b0 || b1) = false := by simpa using hb
    by_cases hb2 : b2 = true
    · exact ex (h.nopaper g hp hc hb hb2) kd2 (by simp [fst', hb, hb2])
    · have hb2 : b2 = false := by simpa using hb2
      have h0 : b0 = false := by cases b0 <;> simp_all
      have h1 : b1 = false := by cases b1 <;> simp_all
      rw [h.t0 h0, h.p0 h1, h.a0 hb2]
      obtain ⟨d, V, e1, y1, o1, ys, os, ty, to, Q1, rfl, a1, a2, a3, a4, a5, _⟩ := (r_gterms g hl hp hc hk hm st (by omega)).ok
      exact ⟨.non, V, Q1, caught_ok (w := 0) e1, .inl ⟨by simp [fst', hb, hb2], rfl⟩, a3.up (by omega), a4, a5⟩
theorem r_c1 {mk mk2 head d2 : D} (g : gn c p k) (hp : p ≤ c) (hc : c < 1152921504606846976) (hk : k ≤ 61) (hl : ms.length = k) (hm : ∀ d ∈ ms, Sz 100 d) (st : Stm n S f Q) (hn : n < 70000) (h : Hin c p k ms b0 b1 b2 top pl pap S)
    (pm : Gm Q c p ms mk d2) (z : Sz 80000 mk2) (h0 : b0 = false → head = .tup [.int (c : Int), mk2]) (h1 : b0 = true → Jh head S) {o : Bool} (ho : o = true ↔ mk2 ≠ mk) :
    ∃ d U Q', m__law_caught [.int 1, .ref f, head, pl, pap] S = .ok d U ∧ Cau d U (fst' [b0, b1, b2, o] 0) ∧ Stm (n + 301) U f Q' ∧ Ext Q Q' ∧ Keep S U := by
  have ex : ∀ {C : Str} {k : Int}, m_growth_answer [.ref f, head, pl, pap] S = .ex ⟨C, []⟩ S → Kd k C → fst' [b0, b1, b2, o] 0 = k → ∃ d U Q', m__law_caught [.int 1, .ref f, head, pl, pap] S = .ok d U ∧ Cau d U (fst' [b0, b1, b2, o] 0) ∧ Stm (n + 301) U f Q' ∧ Ext Q Q' ∧ Keep S U := fun {C k} e1 hk ek => by
    obtain ⟨e3, e4⟩ := caught_ex (w := 1) e1 hk
    rw [ek]
    exact ⟨_, _, Q, e3, e4, st.more.up (by omega), Ext.refl, Keep.app⟩
  by_cases hb0 : b0 = true
  · exact ex (ga_nohead (h1 hb0)) (.inl ⟨rfl, rfl⟩) (by simp [fst', hb0])
  · have hb0 : b0 = false := by simpa using hb0
    have hh := r_ishead (T := S) (e := mk2) hc (r_stamp (z.up (by decide)) S)
    have et := h.t0 hb0
    rw [h0 hb0] at ex ⊢
    by_cases hb1 : b1 = true
    · have := h.noplace (f := f) hc (by simp [hb1])
      rw [et] at this
      exact ex (ga_ex hh this) kd1 (by simp [fst', hb0, hb1])
    · have hb1 : b1 = false := by simpa using hb1
      by_cases hb2 : b2 = true
      · have := h.nopaper (f := f) g hp hc (by simp [hb0, hb1]) hb2
        rw [et] at this
        exact ex (ga_ex hh this) kd2 (by simp [fst', hb0, hb1, hb2])
      · have hb2 : b2 = false := by simpa using hb2
        rw [h.p0 hb1, h.a0 hb2]
        obtain ⟨e1, e2, U, Q', a1, a2, a3, a4, a5, a6, a7⟩ := r_ganswer g hl hp hc hk hm st (by omega) z
        have ed : e1 = mk := (a1.det (pm.ext a3)).1
        subst ed
        rcases a7 with ⟨q, run⟩ | ⟨q, V, Q2, v1, v2, v3, _, run⟩
        · have hoF : o = false := by
            cases o with
            | false => rfl
            | true => exact absurd q.symm (ho.mp rfl)
          exact ⟨.non, U, Q', caught_ok (w := 1) run, .inl ⟨by simp [fst', hb0, hb1, hb2, hoF], rfl⟩, a2.up (by omega), a3, a4⟩
        · have hoT : o = true := ho.mpr fun z => q z.symm
          obtain ⟨e3, e4⟩ := caught_ex (w := 1) (k := 3) run (.inr (.inr (.inr (.inl ⟨rfl, rfl⟩))))
          exact ⟨_, _, Q2, e3, by simpa [fst', hb0, hb1, hb2, hoT] using e4, v1.more.up (by omega), v2, v3.trans Keep.app⟩
end

theorem r_refused {n c p k : Nat} {ms : List D} {mk d2 : D} {f : Nat} {Q : List D → Option D} {T : Sto} {ns : List Int} (hT0 : T[0]? = some (.rdl (ns.map D.int))) (g : gn c p k) (hp : p ≤ c) (hc : c < 1152921504606846976) (hk : k ≤ 61) (hl : ms.length = k) (hm : ∀ d ∈ ms, Sz 100 d) (st : Stm n T f Q) (hn : n < 50000)
    (pm : Gm Q c p ms mk d2) (z : Sz 70000 mk) : We (m__law_refused [.ref f, .ref 0, .int (c : Int), .int (p : Int), .tup ms, mk] T) (fun d U => d = .bl true ∧ ∃ Q', Stm (n + 1000) U f Q' ∧ Ext Q Q' ∧ Keep T U) (fun _ _ => False) := by
  refine we_def ?_
  unfold b__law_refused
  simp -dsimp [s6_4, s6_8]
  refine we_lcg (fun _ y => ∃ b, y = .bl b) (by decide) (fun i S' hi ⟨G, hG⟩ => ?_) (fun _ => rfl) (fun ys G h1 h2 => ?_)
  · subst hG
    obtain ⟨v, ev⟩ := r_cell ns (at_more (l := G) hT0) (4 + i) (by omega)
    exact ⟨_, rfl, _, rfl, .bl (decide (v % 3 = 0)), [], by simp [e1__law_refused, ev], _, rfl⟩
  obtain ⟨_, _, _, _, rfl, ⟨b0, rfl⟩, ⟨b1, rfl⟩, ⟨b2, rfl⟩, ⟨b3, rfl⟩⟩ := four (V := fun y => ∃ b, y = .bl b) h1 h2
  clear h1 h2
  have hW : (T ++ Ob.lst [.bl b0, .bl b1, .bl b2, .bl b3] :: G)[T.length]? = some (.lst [.bl b0, .bl b1, .bl b2, .bl b3]) := by simp
  have k1 : Keep T (T ++ Ob.lst [.bl b0, .bl b1, .bl b2, .bl b3] :: G) := Keep.app
  have st1 := st.more (G := Ob.lst [.bl b0, .bl b1, .bl b2, .bl b3] :: G)
  generalize T ++ Ob.lst [.bl b0, .bl b1, .bl b2, .bl b3] :: G = S at *
  replace hT0 := k1 _ _ hT0 (by simp)
  simp -dsimp [s6_4, s6_8]
  refine we_lcg (fun _ y => ∃ j, y = .int j) (by decide) (fun i S' hi ⟨G, hG⟩ => ?_) (fun _ => rfl) (fun ys G h1 h2 => ?_)
  · subst hG
    obtain ⟨v, ev⟩ := r_cell ns (at_more (l := G) hT0) (4 + i) (by omega)
    exact ⟨_, rfl, _, rfl, .int (v / 3), [], by simp [e2__law_refused, ev], _, rfl⟩
  obtain ⟨_, _, _, _, rfl, ⟨c0, rfl⟩, ⟨c1, rfl⟩, ⟨c2, rfl⟩, ⟨c3, rfl⟩⟩ := four (V := fun y => ∃ j, y = .int j) h1 h2
  clear h1 h2
  have hM : (S ++ Ob.lst [.int c0, .int c1, .int c2, .int c3] :: G)[S.length]? = some (.lst [.int c0, .int c1, .int c2, .int c3]) := by simp
  have k2 : Keep S (S ++ Ob.lst [.int c0, .int c1, .int c2, .int c3] :: G) := Keep.app
  have st2 := st1.more (G := Ob.lst [.int c0, .int c1, .int c2, .int c3] :: G)
  generalize S ++ Ob.lst [.int c0, .int c1, .int c2, .int c3] :: G = S2 at *
  replace hT0 := k2 _ _ hT0 (by simp)
  replace hW := k2 _ _ hW (by simp)
  have k3 := k1.trans k2
  generalize T.length = W at *
  generalize S.length = M at *
  clear k1 k2 st1 st
  have iW : ∀ U : Sto, U[W]? = some (.lst [.bl b0, .bl b1, .bl b2, .bl b3]) → fItem (.ref W) (.int 0) U = some (.bl b0, U) ∧ fItem (.ref W) (.int 1) U = some (.bl b1, U) ∧ fItem (.ref W) (.int 2) U = some (.bl b2, U) ∧ fItem (.ref W) (.int 3) U = some (.bl b3, U) := fun U h => by simp [h]
  have iM : ∀ U : Sto, U[M]? = some (.lst [.int c0, .int c1, .int c2, .int c3]) → fItem (.ref M) (.int 0) U = some (.int c0, U) ∧ fItem (.ref M) (.int 1) U = some (.int c1, U) ∧ fItem (.ref M) (.int 2) U = some (.int c2, U) ∧ fItem (.ref M) (.int 3) U = some (.int c3, U) := fun U h => by simp [h]
  rw [wp_seq]
  simp -dsimp only [wp_asg, ev_var, getV_zero, getV_succ, we_ok, List.set_cons_succ, List.set_cons_zero]
  refine wp_sq (fun ρ U => ∃ top, ρ = [some (.ref f), some (.ref 0), some (.int (c : Int)), some (.int (p : Int)), some (.tup ms), some mk, some (.ref W), some (.ref M), some top, none, none, none, none] ∧ Keep S2 U ∧ Stm n U f Q ∧ (b0 = false → top = .int (c : Int)) ∧ (b0 = true → Pv top U ∧ blw top 1152921504606846976 = false)) ?_ ?_
  · have w0 := (iW S2 hW).1
    have m0 := (iM S2 hM).1
    cases b0 with
    | false =>
      simp -dsimp [w0, -fItem_ref]
      exact ⟨Keep.refl, st2⟩
    | true =>
      obtain ⟨top, _, e1, ⟨G, rfl⟩, e2, e3⟩ := (r_nocount c0 hc S2).ok
      simp -dsimp [w0, m0, -fItem_ref, e1]
      exact ⟨Keep.app, st2.more, e2, e3⟩
  rintro ρ S3 ⟨top, rfl, k4, st3, t0, t1⟩
  replace hT0 := k4 _ _ hT0 (by simp)
  replace hW := k4 _ _ hW (by simp)
  replace hM := k4 _ _ hM (by simp)
  have k5 := k3.trans k4
  clear k3 k4 st2
  refine wp_sq (fun ρ U => ∃ pl, ρ = [some (.ref f), some (.ref 0), some (.int (c : Int)), some pl, some (.tup ms), some mk, some (.ref W), some (.ref M), some top, none, none, none, none] ∧ Keep S3 U ∧ Stm n U f Q ∧ (b1 = false → pl = .int (p : Int)) ∧ (b1 = true → Pv pl U ∧ blw pl ((c : Int) + 1) = false)) ?_ ?_
  · have w0 := (iW S3 hW).2.1
    have m0 := (iM S3 hM).2.1
    cases b1 with
    | false =>
      simp -dsimp [w0, -fItem_ref]
      exact ⟨Keep.refl, st3⟩
    | true =>
      obtain ⟨pl, _, e1, ⟨G, rfl⟩, e2, e3⟩ := (r_noelder c1 hc S3).ok
      simp -dsimp [w0, m0, -fItem_ref, e1]
      exact ⟨Keep.app, st3.more, e2, e3⟩
  rintro ρ S4 ⟨pl, rfl, k6, st4, p0, p1⟩
  replace hT0 := k6 _ _ hT0 (by simp)
  replace hW := k6 _ _ hW (by simp)
  replace hM := k6 _ _ hM (by simp)
  have k7 := k5.trans k6
  have t1 := fun z => (⟨(t1 z).1.keep k6, (t1 z).2⟩ : Pv top S4 ∧ _)
  clear k5 k6 st3
  refine wp_sq (fun ρ U => ∃ pap, ρ = [some (.ref f), some (.ref 0), some (.int (c : Int)), some pl, some pap, some mk, some (.ref W), some (.ref M), some top, none, none, none, none] ∧ Keep S4 U ∧ Stm n U f Q ∧ (b2 = false → pap = .tup ms) ∧ (b2 = true → Jm k pap U)) ?_ ?_
  · have w0 := (iW S4 hW).2.2.1
    have m0 := (iM S4 hM).2.2.1
    cases b2 with
    | false =>
      simp -dsimp [w0, -fItem_ref]
      exact ⟨Keep.refl, st4⟩
    | true =>
      obtain ⟨pap, _, e1, ⟨G, rfl⟩, e2⟩ := (r_nopaper c2 (fun d hd => (hm d hd).up (by decide)) (by omega) S4).ok
      rw [hl] at e2
      simp -dsimp [w0, m0, -fItem_ref, e1]
      exact ⟨Keep.app, st4.more, e2⟩
  rintro ρ S5 ⟨pap, rfl, k8, st5, a0, a1⟩
  replace hT0 := k8 _ _ hT0 (by simp)
  replace hW := k8 _ _ hW (by simp)
  replace hM := k8 _ _ hM (by simp)
  have k9 := k7.trans k8
  have hin : Hin c p k ms b0 b1 b2 top pl pap S5 := ⟨t0, fun z => ⟨(t1 z).1.keep k8, (t1 z).2⟩, p0, fun z => ⟨(p1 z).1.keep k8, (p1 z).2⟩, a0, a1⟩
  clear k7 k8 st4 t0 t1 p0 p1 a0 a1
  obtain ⟨w0, w1, w2, w3⟩ := iW S5 hW
  have lf := r_lfirst (T := S5 ++ [.lst ([false, b0 || b1, b2].map D.bl)]) (L := S5.length) (bs := [false, b0 || b1, b2]) (by simp) (by simp)
  simp -dsimp [w0, w1, w2, -fItem_ref]
  refine We.of (d := .bl (b0 || b1)) (S := S5) (by cases b0 <;> rfl) ?_
  simp -dsimp only [List.map_cons, List.map_nil] at lf
  simp -dsimp [w0, w1, w2, -fItem_ref, lf, small62_is]
  have st6 := st5.more (G := [Ob.lst [.bl false, .bl (b0 || b1), .bl b2]])
  have k10 : Keep S5 (S5 ++ [Ob.lst [.bl false, .bl (b0 || b1), .bl b2]]) := Keep.app
  replace hin := hin.keep k10
  replace hT0 := k10 _ _ hT0 (by simp)
  replace hW := k10 _ _ hW (by simp)
  replace hM := k10 _ _ hM (by simp)
  have k11 := k9.trans k10
  clear k9 k10 lf st5 w0 w1 w2 w3
  generalize S5 ++ [Ob.lst [.bl false, .bl (b0 || b1), .bl b2]] = S6 at *
  obtain ⟨d, U, Q1, e1, e2, q2, q3, q1⟩ := r_c0 g hp hc hk hl hm st6 (by omega) hin
  obtain ⟨G, e6⟩ := r_is e2
  simp -dsimp [e1, e6, -wp_seq, -ev_seq]
  replace hin := (hin.keep q1).keep (Keep.app (G := G))
  replace pm := pm.ext q3
  replace q2 := q2.more (G := G)
  replace q1 := q1.trans (Keep.app (G := G))
  replace hT0 := q1 _ _ hT0 (by simp)
  replace hW := q1 _ _ hW (by simp)
  replace hM := q1 _ _ hM (by simp)
  have k12 := k11.trans q1
  clear k11 q1 st6 e1 e6 e2
  generalize U ++ G = U at *
  rw [wp_seq]
  simp -dsimp only [wp_asg, ev_tup, ev_cons, ev_nil, R.bind_ok, ev_var, getV_zero, getV_succ, we_ok, List.set_cons_succ, List.set_cons_zero, List.length_cons, List.length_nil]
  rw [if_pos (by decide), we_ok]
  refine wp_sq (fun ρ V => ∃ mk2, ρ = [some (.ref f), some (.ref 0), some (.int (c : Int)), some pl, some pap, some mk, some (.ref W), some (.ref M), some top, some (.int (fst' [false, b0 || b1, b2] 0)), some (.tup [.int (c : Int), mk2]), none, none] ∧ Keep U V ∧ Stm (n + 300) V f Q1 ∧ Sz 80000 mk2) ?_ ?_
  · obtain ⟨_, _, _, w3⟩ := iW U hW
    obtain ⟨_, _, _, m3⟩ := iM U hM
    cases b3 with
    | false =>
      simp -dsimp [w3, -fItem_ref]
      exact ⟨Keep.refl, q2, z.up (by decide)⟩
    | true =>
      obtain ⟨d, G, e1, e2⟩ := r_other c3 z U
      simp -dsimp [w3, m3, -fItem_ref, e1]
      exact ⟨Keep.app, q2.more, e2⟩
  rintro ρ V ⟨mk2, rfl, q4, q5, z2⟩
  replace hin := hin.keep q4
  replace hT0 := q4 _ _ hT0 (by simp)
  replace hW := q4 _ _ hW (by simp)
  replace hM := q4 _ _ hM (by simp)
  have k13 := k12.trans q4
  clear k12 q4 q2
  obtain ⟨cc, ecc, hcc⟩ := eqD_pt2 (S := V) z2.pt z.pt
  have ho : (!cc) = true ↔ mk2 ≠ mk := by
    rw [ne_eq, ← hcc]
    cases cc <;> simp
  generalize hO : (!cc) = oo at *
  have i1 : atI [.int (c : Int), mk2] 1 = some mk2 := rfl
  rw [wp_seq]
  have s12 : Wp (sAsg 11 (mBin fNe (mBin fItem (mVar 10) (mC (.int 1))) (mVar 5)) [some (.ref f), some (.ref 0), some (.int (c : Int)), some pl, some pap, some mk, some (.ref W), some (.ref M), some top, some (.int (fst' [false, b0 || b1, b2] 0)), some (.tup [.int (c : Int), mk2]), none, none] V) (fun ρ U => ρ = [some (.ref f), some (.ref 0), some (.int (c : Int)), some pl, some pap, some mk, some (.ref W), some (.ref M), some top, some (.int (fst' [false, b0 || b1, b2] 0)), some (.tup [.int (c : Int), mk2]), some (.bl oo), none] ∧ U = V) (fun _ _ => False) (fun _ _ _ => False) := by
    simp -dsimp [i1, ecc, hO]
  refine wp_mono s12 ?_ (fun _ _ z => z.elim) fun _ _ _ z => z.elim
  rintro ρ U' ⟨rfl, rfl⟩
  clear s12
  refine wp_sq (fun ρ X => ∃ hd, ρ = [some (.ref f), some (.ref 0), some (.int (c : Int)), some pl, some pap, some mk, some (.ref W), some (.ref M), some top, some (.int (fst' [false, b0 || b1, b2] 0)), some hd, some (.bl oo), none] ∧ Keep U' X ∧ Stm (n + 300) X f Q1 ∧ (b0 = false → hd = .tup [.int (c : Int), mk2]) ∧ (b0 = true → Jh hd X)) ?_ ?_
  · have w0 := (iW U' hW).1
    have m0 := (iM U' hM).1
    cases b0 with
    | false =>
      simp -dsimp [w0, -fItem_ref]
      exact ⟨Keep.refl, q5⟩
    | true =>
      obtain ⟨hd, G, e1, e2⟩ := r_nohead c0 (m := c) (mk := mk) hc (z.up (by decide)) U'
      simp -dsimp [w0, m0, -fItem_ref, e1]
      exact ⟨Keep.app, q5.more, e2⟩
  rintro ρ X ⟨hd, rfl, q6, q7, h0, h1⟩
  replace hin := hin.keep q6
  replace hT0 := q6 _ _ hT0 (by simp)
  replace hW := q6 _ _ hW (by simp)
  replace hM := q6 _ _ hM (by simp)
  have k14 := k13.trans q6
  clear k13 q6 q5
  obtain ⟨w0, w1, w2, w3⟩ := iW X hW
  have lf := r_lfirst (T := X ++ [.lst ([b0, b1, b2, oo].map D.bl)]) (L := X.length) (bs := [b0, b1, b2, oo]) (by simp) (by simp)
  simp -dsimp only [List.map_cons, List.map_nil] at lf
  have k17 : Keep X (X ++ [Ob.lst [.bl b0, .bl b1, .bl b2, .bl oo]]) := Keep.app
  obtain ⟨d, V, Q2, e1, e2, e3, e4, e5⟩ := r_c1 (head := hd) g hp hc hk hl hm (q7.more (G := [Ob.lst [.bl b0, .bl b1, .bl b2, .bl oo]])) (by omega) (hin.keep k17) pm z2 h0 (fun z => (h1 z).keep k17) ho
  obtain ⟨G2, e6⟩ := r_is e2
  simp -dsimp [w0, w1, w2, -fItem_ref, lf, e1, e6]
  exact ⟨Q2, e3.more.up (by omega), q3.trans e4, ((k14.trans k17).trans e5).trans Keep.app⟩

/-! rows that are asked for anything -/
/-- no text: a whole number or nothing of it -/
def Nok (d : D) (T : Sto) : Prop := Pv d T ∧ ∀ z, d ≠ .str z
theorem Nok.keep {d : D} {T U : Sto} (h : Nok d T) (k : Keep T U) : Nok d U := ⟨h.1.keep k, h.2⟩
theorem Js.nok {d : D} {T : Sto} (h : Js d T) : Nok d T := by
  rcases h with ⟨i, rfl, _⟩ | ⟨h, hz⟩
  · exact ⟨.inl ⟨i, rfl⟩, fun z => by simp⟩
  · exact ⟨.inr h, hz⟩
theorem nok_int (i : Int) (T : Sto) : Nok (.int i) T := ⟨.inl ⟨i, rfl⟩, fun z => by simp⟩
theorem r_near (c : Int) (k : Nat) (hk : k < 1000) (T : Sto) : ∃ d G, m__law_near [.int c, .int (k : Int)] T = .ok d (T ++ G) ∧ Nok d (T ++ G) := by
  by_cases h0 : c % 3 > 0
  · have h3 : (0 : Int) < (k : Int) + 3 := by omega
    exact ⟨.int (c / 3 % ((k : Int) + 3) - 1), [], by simp [m__law_near, b__law_near, h0, h3], nok_int _ _⟩
  · obtain ⟨d, G, e1, e2, _⟩ := r_nost (c / 3) T
    exact ⟨d, G, by simp [m__law_near, b__law_near, h0, e1], e2.nok⟩
theorem nok_stamp {d : D} {T : Sto} (h : Nok d T) : m_is_stamp [d] T = .ok (.bl (blw d big)) T := by
  obtain ⟨⟨i, rfl⟩ | h, hz⟩ := h
  · rw [s_stamp (d := .int i) True.intro]
    simp [stampB, blw]
  · rw [blw_no h]
    exact r_nostamp (.inr ⟨h, hz⟩)
theorem r_lnowhole {d : D} {T : Sto} (h : Nw d T) : m__law_whole [d] T = .ok (.bl false) T := by
  rcases h with rfl | ⟨b, rfl⟩ | ⟨z, rfl⟩ | ⟨xs, rfl⟩ | ⟨r, rfl, ⟨xs, h⟩ | ⟨kvs, h⟩⟩
  · simp [m__law_whole, b__law_whole]
  · simp [m__law_whole, b__law_whole]
  · simp [m__law_whole, b__law_whole]
  · simp [m__law_whole, b__law_whole]
  · simp [m__law_whole, b__law_whole, h, lst_of h]
  · have l : lstAt T r = none := by unfold lstAt; rw [h]
    simp [m__law_whole, b__law_whole, h, l]
def intD : D → Int
  | .int i => i
  | _ => 0
theorem r_within {d : D} {T : Sto} (h : Pv d T) (m : Int) : m__law_within [d, .int m] T = .ok (.bl (blw d m)) T := by
  rcases h with ⟨i, rfl⟩ | h
  · by_cases h0 : 0 ≤ i <;> by_cases h1 : i < m <;> simp [m__law_within, b__law_within, m__law_whole, b__law_whole, blw, h0, h1]
  · have e := r_lnowhole h
    have hb : blw d m = false := blw_no h m
    rw [hb]
    simp [m__law_within, b__law_within, e]
theorem blw_is {d : D} {m : Int} (h : blw d m = true) : ∃ i : Nat, d = .int (i : Int) ∧ (i : Int) < m := by
  cases d <;> simp [blw] at h
  rename_i i
  exact ⟨i.toNat, by rw [Int.toNat_of_nonneg h.1], by omega⟩
theorem ent_int {i : Nat} (h : (i : Int) < big) : Ent (.int (i : Int)) := (sz_int (by omega) h).up (by decide)
theorem mod3 (c : Int) : c % 3 = 0 ∨ c % 3 = 1 ∨ c % 3 = 2 := by omega
theorem r_size {T : Sto} {r f E : Nat} {es : List D} (h : Rw T r f E es) (hl : es.length ≤ 100) : m_Row_size [.ref r] T = .ok (.int (es.length : Int)) T := by
  have f1 := fld_en h
  have l1 := lst_of h.lst
  have g1 := h.lst
  have h16 : es.length ≤ 16777216 := by omega
  simp [-fldD_ref, m_Row_size, b_Row_size, f1, l1, g1, h16]

def goodR (w : Int) (one other : D) (k : Nat) : Bool := blw one ((k : Int) + 1) && (decide (w = 0) || blw other (intD one + 1))
theorem asked_ok {w : Int} {r : Nat} {one other d : D} {T U : Sto} {E f : Nat} {es : List D} (h : Rw T r f E es) (e : (if w = 0 then m_Row_mark_at [.ref r, one] T else m_Row_growth_paper [.ref r, one, other] T) = .ok d U) : m__law_asked [.int w, .ref r, one, other] T = .ok .non U := by
  have d1 := disp_row (m := "mark_at") (g := m_Row_mark_at) h (by decide +kernel) (by decide +kernel)
  have d3 := disp_row (m := "growth_paper") (g := m_Row_growth_paper) h (by decide +kernel) (by decide +kernel)
  by_cases h0 : w = 0
  · rw [if_pos h0] at e
    simp [m__law_asked, b__law_asked, h0, -disp_ref, d1, e]
  · rw [if_neg h0] at e
    simp [m__law_asked, b__law_asked, h0, -disp_ref, d3, e]
theorem asked_ex {w k : Int} {r : Nat} {one other : D} {C : Str} {fs : List (Str × D)} {T U : Sto} {E f : Nat} {es : List D} (h : Rw T r f E es) (e : (if w = 0 then m_Row_mark_at [.ref r, one] T else m_Row_growth_paper [.ref r, one, other] T) = .ex ⟨C, fs⟩ U) (hk : Kd k C) : m__law_asked [.int w, .ref r, one, other] T = .ok (.ref U.length) (U ++ [.exn C fs]) ∧ Cau (.ref U.length) (U ++ [.exn C fs]) k := by
  obtain ⟨_, _, hs, _⟩ := hk.isa
  refine ⟨?_, .inr ⟨_, C, fs, rfl, by simp, hk⟩⟩
  have d1 := disp_row (m := "mark_at") (g := m_Row_mark_at) h (by decide +kernel) (by decide +kernel)
  have d3 := disp_row (m := "growth_paper") (g := m_Row_growth_paper) h (by decide +kernel) (by decide +kernel)
  by_cases h0 : w = 0
  · rw [if_pos h0] at e
    simp [m__law_asked, b__law_asked, h0, -disp_ref, d1, e, hs]
  · rw [if_neg h0] at e
    simp [m__law_asked, b__law_asked, h0, -disp_ref, d3, e, hs]
theorem r_asked {U : Sto} {r f E n : Nat} {es : List D} {Q : List D → Option D} (h : Rw U r f E es) (st : Stm n U f Q) (hn : n < 60000) (hl : es.length ≤ 50) (he : ∀ e ∈ es, Ent e) {one other : D} (h1 : Nok one U) (h2 : Nok other U) {w : Int} :
    ∃ d V Q', m__law_asked [.int w, .ref r, one, other] U = .ok d V ∧ Cau d V (if goodR w one other es.length = true then -1 else 1) ∧ Stm (n + 300) V f Q' ∧ Ext Q Q' ∧ Keep U V := by
  have f1 := fld_en h
  have f2 := fld_st h
  have l1 := lst_of h.lst
  have g1 := h.lst
  have h16 : es.length ≤ 16777216 := by omega
  have rb := r_belowG h1.1 ((es.length : Int) + 1)
  have dr := disp_row (m := "first") (g := m_Row_first) h (by decide +kernel) (by decide +kernel)
  have bad : ∀ {G : Sto}, (if w = 0 then m_Row_mark_at [.ref r, one] U else m_Row_growth_paper [.ref r, one, other] U) = .ex ⟨"NoPlace", []⟩ (U ++ G) → goodR w one other es.length = false → ∃ d V Q', m__law_asked [.int w, .ref r, one, other] U = .ok d V ∧ Cau d V (if goodR w one other es.length = true then -1 else 1) ∧ Stm (n + 300) V f Q' ∧ Ext Q Q' ∧ Keep U V := fun {G} ea hd => by
    obtain ⟨e3, e4⟩ := asked_ex (k := 1) h ea kd1
    rw [hd, if_neg (by decide)]
    exact ⟨_, _, Q, e3, e4, (st.more.more).up (by omega), Ext.refl, Keep.app.trans Keep.app⟩
  cases hb : blw one ((es.length : Int) + 1) with
  | false =>
    rw [hb] at rb
    have ef : m_Row_first [.ref r, one] U = .ex ⟨"NoPlace", []⟩ U := by simp [-fldD_ref, m_Row_first, b_Row_first, f1, l1, g1, h16, rb]
    refine bad (G := []) ?_ (by simp [goodR, hb])
    rw [List.append_nil]
    by_cases h0 : w = 0
    · rw [if_pos h0]
      simp [m_Row_mark_at, b_Row_mark_at, -disp_ref, -fldD_ref, f2, dr, ef]
    · rw [if_neg h0]
      simp [m_Row_growth_paper, b_Row_growth_paper, -disp_ref, dr, ef]
  | true =>
    obtain ⟨i, rfl, hi⟩ := blw_is hb
    by_cases h0 : w = 0
    · obtain ⟨V, d, Q1, a1, a2, a3, a4, _⟩ := r_mark h st (by omega) (c := i) (by omega) (by omega) he
      exact ⟨.non, V, Q1, asked_ok h (by rw [if_pos h0]; exact a1), .inl ⟨by simp [goodR, hb, h0], rfl⟩, a2, a3, a4⟩
    · have ef := r_first h (c := i) (by omega) (by omega)
      have rb2 := r_belowG (h2.1.keep (Keep.app (G := [Ob.lst (es.take i)]))) ((i : Int) + 1)
      cases hb2 : blw other ((i : Int) + 1) with
      | true =>
        obtain ⟨p, rfl, hp⟩ := blw_is hb2
        obtain ⟨V, ms, Q1, a1, a2, a3, a4, a5⟩ := r_paper h st (by omega) (c := i) (el := p) (by omega) (by omega) (by omega) he
        exact ⟨.non, V, Q1, asked_ok h (by rw [if_neg h0]; exact a1), .inl ⟨by simp [goodR, hb, hb2, intD], rfl⟩, a2.up (by omega), a3, a4⟩
      | false =>
        rw [hb2] at rb2
        refine bad (G := [Ob.lst (es.take i)]) ?_ (by simp [goodR, intD, hb2, h0])
        rw [if_neg h0]
        generalize es.take i = X at *
        simp [m_Row_growth_paper, b_Row_growth_paper, -disp_ref, dr, ef, rb2]
theorem rows2 {T : Sto} {ns : List Int} {r f E n : Nat} {es : List D} {Q : List D → Option D} {mk : D} (h0 : T[0]? = some (.rdl (ns.map D.int))) (hr : Rw T r f E es) (st : Stm n T f Q) (he : ∀ e ∈ es, Ent e) (hl : es.length ≤ 50) (hn : n < 50000) (k : Nat) (o6 o7 o8 o9 : Option D) :
    Wp (l2__law_rows [some (.ref f), some (.ref 0), some (.ref r), some (.int (es.length : Int)), some (.int (k : Int)), some mk, o6, o7, o8, o9] T) (fun ρ U => (∃ o6 o7 o8 o9, ρ = [some (.ref f), some (.ref 0), some (.ref r), some (.int (es.length : Int)), some (.int (k : Int)), some mk, o6, o7, o8, o9]) ∧ Keep T U ∧ ∃ Q', Stm (n + 300) U f Q' ∧ Ext Q Q') (fun _ _ => False) (fun _ _ _ => False) := by
  obtain ⟨c, e1⟩ := r_cell ns h0 (k : Int) (by omega)
  obtain ⟨c2, e2⟩ := r_cell ns h0 ((k : Int) + 1) (by omega)
  obtain ⟨one, G1, e3, n1⟩ := r_near c2 es.length (by omega) T
  have k1 : Keep T (T ++ G1) := Keep.app
  have st1 := st.more (G := G1)
  have hr1 := hr.keep k1
  have h01 := at_more (l := G1) h0
  unfold l2__law_rows
  simp -dsimp [e1, e2, e3]
  generalize T ++ G1 = T1 at *
  obtain ⟨c3, e4⟩ := r_cell ns h01 ((k : Int) + 2) (by omega)
  obtain ⟨other, G2, e5, n2⟩ := r_near (c3 / 3) es.length (by omega) T1
  replace n1 := n1.keep (Keep.app (G := G2))
  have k2 : Keep T (T1 ++ G2) := k1.trans Keep.app
  have st2 := st1.more (G := G2)
  have hr2 := hr1.keep (Keep.app (G := G2))
  simp -dsimp [e4, e5]
  generalize T1 ++ G2 = T2 at *
  clear e1 e2 e3 e4 e5 h0 h01 hr st hr1 st1 k1
  have w1 := r_within n1.1 ((es.length : Int) + 1)
  obtain ⟨d, V, Q2, a1, a2, a4, a5, a6⟩ := r_asked hr2 st2 (by omega) hl he n1 n2 (w := c % 3)
  have a2' : Cau d (V ++ [.lst [.int 1, .int (-1)]]) (if goodR (c % 3) one other es.length = true then -1 else 1) := by
    rcases a2 with a2 | ⟨m, C, fs, z1, z2, z3⟩
    · exact .inl a2
    · exact .inr ⟨m, C, fs, z1, at_more z2, z3⟩
  obtain ⟨G3, a7⟩ := r_is a2'
  have fin : Keep T (V ++ [Ob.lst [.int 1, .int (-1)]] ++ G3) ∧ ∃ Q', Stm (n + 300) (V ++ [Ob.lst [.int 1, .int (-1)]] ++ G3) f Q' ∧ Ext Q Q' := ⟨(k2.trans a6).trans (Keep.app.trans Keep.app), Q2, (a4.more).more, a5⟩
  rw [List.append_assoc, List.cons_append, List.nil_append] at fin a7
  have hg : goodR (c % 3) one other es.length = (blw one ((es.length : Int) + 1) && (decide (c % 3 = 0) || blw other (intD one + 1))) := rfl
  cases hb : blw one ((es.length : Int) + 1) with
  | false =>
    rw [hb] at w1 hg
    rw [hg, Bool.false_and, if_neg (by decide)] at a7
    by_cases h3 : c % 3 > 0
    · simp -dsimp [w1, h3, a1, a7]
      exact fin
    · simp -dsimp [w1, h3, a1, a7]
      exact fin
  | true =>
    obtain ⟨i, rfl, hi⟩ := blw_is hb
    rw [hb] at w1 hg
    have w2 := r_within n2.1 ((i : Int) + 1)
    by_cases h3 : c % 3 > 0
    · have h3' : ¬ c % 3 = 0 := by omega
      cases hb2 : blw other ((i : Int) + 1) with
      | true =>
        rw [hb2] at w2
        simp only [h3', intD, hb2, decide_false, Bool.or_true, Bool.and_true] at hg
        rw [hg, if_pos rfl] at a7
        simp -dsimp [w1, w2, h3, a1, a7]
        exact fin
      | false =>
        rw [hb2] at w2
        simp only [h3', intD, hb2, decide_false, Bool.or_false, Bool.and_false] at hg
        rw [hg, if_neg (by decide)] at a7
        simp -dsimp [w1, w2, h3, a1, a7]
        exact fin
    · have h3' : c % 3 = 0 := by omega
      simp only [h3', decide_true, Bool.true_or, Bool.and_true] at hg
      rw [h3'] at a1 a7
      rw [hg, if_pos rfl] at a7
      simp -dsimp [w1, h3', a1, a7]
      exact fin
theorem r_rows {n : Nat} {f : Nat} {Q : List D → Option D} {T : Sto} {ns : List Int} (hns : ns.length ≤ 63) (hT0 : T[0]? = some (.rdl (ns.map D.int))) (st : Stm n T f Q) (hn : n < 40000) : ∃ U, m__law_rows [.ref f, .ref 0] T = .ok (.bl true) U := by
  obtain ⟨d, U, e, rfl⟩ : ∃ d U, m__law_rows [.ref f, .ref 0] T = .ok d U ∧ d = .bl true := by
    refine We.ok (Q := fun d U => d = .bl true) (we_def ?_)
    unfold b__law_rows
    have ri := r_init T f
    have h0 : Rw (T ++ [rowO f (T.length + 1), .lst []]) T.length f (T.length + 1) [] := ⟨by simp, by simp⟩
    have st1 := st.more (G := [rowO f (T.length + 1), .lst []])
    simp -dsimp [ri]
    replace hT0 := at_more (l := [rowO f (T.length + 1), .lst []]) hT0
    generalize T ++ [rowO f (T.length + 1), .lst []] = T1 at *
    generalize T.length = r at *
    obtain ⟨c, e1⟩ := r_cell ns hT0 3 (by decide)
    obtain ⟨j, hj, ej⟩ : ∃ j : Nat, j < 9 ∧ c % 9 = (j : Int) := ⟨(c % 9).toNat, by omega, by omega⟩
    have s8 : small62 8 = true := small62_is (by decide)
    have sj : small62 (8 + (j : Int)) = true := small62_is (by omega)
    simp -dsimp [e1, ej, s8, sj]
    refine wp_for (fun i ρ U => (∃ o4, ρ = [some (.ref f), some (.ref 0), some (.ref r), some (.int (j : Int)), o4, none, none, none, none, none]) ∧ ∃ es : List D, es.length = i ∧ U[0]? = some (.rdl (ns.map D.int)) ∧ Rw U r f (r + 1) es ∧ Stm n U f Q ∧ ∀ e ∈ es, Ent e) ⟨⟨_, rfl⟩, [], rfl, hT0, h0, st1, by simp⟩ ?_ (fun _ _ _ => rfl) ?_
    · rintro i ρ U hi ⟨⟨o4, rfl⟩, es, q1, q2, q3, q4, q5⟩
      have hi' : i < (8 + (j : Int) - 8).toNat := hi
      refine ⟨_, rfl, _, rfl, ?_⟩
      rw [show (8 : Int) + (i : Int) = ((8 + i : Nat) : Int) by omega]
      obtain ⟨v, ev⟩ := r_cell ns q2 ((8 + i : Nat) : Int) (by omega)
      obtain ⟨x, G, ex, hx⟩ := r_stampby (v + ((8 + i : Nat) : Int)) U
      have w1 := q3.keep (Keep.app (G := G))
      have ra := r_add w1 hx (by omega)
      have da := disp_row (m := "add") (g := m_Row_add) q3 (by decide +kernel) (by decide +kernel)
      have e0 : 0 ≠ r + 1 := by
        rintro z
        rw [z, q3.lst] at q2
        cases q2
      unfold l1__law_rows
      generalize ((8 + i : Nat) : Int) = kk at *
      simp -dsimp [ev, ex, -disp_ref, da, ra]
      refine ⟨es ++ [x], by simp [q1], at_more q2, w1.set, (q4.more).set w1.lst, fun e he => ?_⟩
      rcases List.mem_append.mp he with he | he
      · exact q5 e he
      · rw [List.mem_singleton.mp he]
        exact hx
    rintro ρ U ⟨⟨o4, rfl⟩, es, q1, q2, q3, q4, q5⟩
    have q1' : es.length = (8 + (j : Int) - 8).toNat := q1
    have q1 : es.length = j := by omega
    subst q1
    obtain ⟨V, mk, Q1, a1, a2, a3, a4, a5, a6⟩ := r_mark q3 q4 (by omega) (c := es.length) (Nat.le_refl _) (by omega) q5
    have dm := disp_row (m := "mark_at") (g := m_Row_mark_at) q3 (by decide +kernel) (by decide +kernel)
    have v0 := a4 _ _ q2 (by simp)
    have v1 := q3.keep a4
    have lt0 : lstAt V 0 = some (ns.map D.int) := by unfold lstAt; rw [v0]
    obtain ⟨m, hm, em⟩ : ∃ m : Nat, m ≤ 12 ∧ (if (12 : Int) < (ns.length : Int) then (12 : Int) else (ns.length : Int)) = (m : Int) := by
      by_cases z : (12 : Int) < (ns.length : Int)
      · exact ⟨12, by omega, by rw [if_pos z]; rfl⟩
      · exact ⟨ns.length, by omega, by rw [if_neg z]⟩
    have s17 : small62 17 = true := small62_is (by decide)
    have sm : small62 (17 + (m : Int)) = true := small62_is (by omega)
    have fm : fMin [.int (ns.length : Int), .int 12] V = some (.int (m : Int), V) := by rw [fMin_ev, em]
    simp -dsimp [-disp_ref, dm, a1, v0, lt0, fm, -fMin_ev, s17, sm]
    refine wp_for (fun i ρ U => (∃ o4 o6 o7 o8 o9, ρ = [some (.ref f), some (.ref 0), some (.ref r), some (.int (es.length : Int)), o4, some mk, o6, o7, o8, o9]) ∧ Keep V U ∧ ∃ Q', Stm (n + 300 + 300 * i) U f Q' ∧ Ext Q1 Q') ⟨⟨_, _, _, _, _, rfl⟩, Keep.refl, Q1, a2, Ext.refl⟩ ?_ (fun _ _ _ => rfl) ?_
    · rintro i ρ U hi ⟨⟨o4, o6, o7, o8, o9, rfl⟩, p1, Q2, p2, p3⟩
      have hi' : i < (17 + (m : Int) - 17).toNat := hi
      refine ⟨_, rfl, _, rfl, ?_⟩
      rw [show (17 : Int) + (i : Int) = ((17 + i : Nat) : Int) by omega]
      exact wp_mono (rows2 (p1 _ _ v0 (by simp)) (v1.keep p1) p2 q5 (by omega) (by omega) (17 + i) o6 o7 o8 o9) (fun ρ' U' ⟨⟨y6, y7, y8, y9, z1⟩, z2, Q3, z3, z4⟩ => ⟨⟨_, _, _, _, _, z1⟩, p1.trans z2, Q3, z3.up (by omega), p3.trans z4⟩) (fun _ _ z => z.elim) fun _ _ _ z => z.elim
    rintro ρ U ⟨⟨o4, o6, o7, o8, o9, rfl⟩, p1, Q2, p2, p3⟩
    have p2' : Stm (n + 300 + 300 * (17 + (m : Int) - 17).toNat) U f Q2 := p2
    have w1 := v1.keep p1
    have ds := disp_row (m := "size") (g := m_Row_size) w1 (by decide +kernel) (by decide +kernel)
    have rs := r_size w1 (by omega)
    obtain ⟨W, mk2, Q3, b1, b2, b3, b4, b5, b6⟩ := r_mark w1 p2' (by omega) (c := es.length) (Nat.le_refl _) (by omega) q5
    have ed : mk2 = mk := b5.det ((a5.ext p3).ext b3)
    subst ed
    have dm2 := disp_row (m := "mark_at") (g := m_Row_mark_at) w1 (by decide +kernel) (by decide +kernel)
    have eq := eq_pt b6 W
    simp -dsimp [-disp_ref, ds, rs, dm2, b1, eq]
  exact ⟨U, e⟩

theorem r_countby (c : Int) (T : Sto) : ∃ m : Nat, m__law_count_by [.int c] T = .ok (.int (m : Int)) T ∧ m < 1152921504606846976 := by
  have csh := csh60
  by_cases h0 : c % 3 = 0
  · have z : c / 3 % 41 = ((c / 3 % 41).toNat : Int) := by omega
    exact ⟨(c / 3 % 41).toNat, by rw [← z]; simp [m__law_count_by, b__law_count_by, h0], by omega⟩
  · by_cases h1 : c % 3 = 1
    · obtain ⟨j, hj, ej⟩ : ∃ j : Nat, j < 59 ∧ c / 3 % 59 = (j : Int) := ⟨(c / 3 % 59).toNat, by omega, by omega⟩
      have p1 : 2 ^ (1 + j) ≤ 2 ^ 59 := Nat.pow_le_pow_right (by decide) (by omega)
      have p2 : 2 ^ 1 ≤ 2 ^ (1 + j) := Nat.pow_le_pow_right (by decide) (by omega)
      have e59 : (2 : Nat) ^ 59 = 576460752303423488 := by decide
      have tn : ((1 : Int) + (j : Int)).toNat = 1 + j := by omega
      have cs : cShl 1 (1 + (j : Int)) = true := by
        rw [cShl_one]
        exact cdec_is ⟨by omega, by omega⟩
      have q : ((2 : Int) ^ (1 + j)) = ((2 ^ (1 + j) : Nat) : Int) := by rw [Int.natCast_pow]; rfl
      have sh : fShl (.int 1) (.int (1 + (j : Int))) T = some (.int ((2 ^ (1 + j) : Nat) : Int), T) := by
        rw [fShl_ev, if_pos cs, tn, ← q, Int.one_mul]
      generalize 2 ^ (1 + j) = w at *
      obtain ⟨r, hr, er⟩ : ∃ r : Nat, r < 4 ∧ c / 177 % 4 = (r : Int) := ⟨(c / 177 % 4).toNat, by omega, by omega⟩
      refine ⟨w + r - 1, ?_, by omega⟩
      have z : ((w + r - 1 : Nat) : Int) = (w : Int) + (r : Int) - 1 := by omega
      rw [z]
      simp [m__law_count_by, b__law_count_by, h0, h1, ej, er, -fShl_ev, sh]
    · have z : c / 3 % 1152921504606846976 = ((c / 3 % 1152921504606846976).toNat : Int) := by omega
      exact ⟨(c / 3 % 1152921504606846976).toNat, by rw [← z]; simp [m__law_count_by, b__law_count_by, h0, h1, csh], by omega⟩
/-- the two terms of none -/
def bare (tv : D) : List D := [.tup [.str "void"], .tup [.str "row", .int 0, tv]]
theorem bare_rp {S : Sto} {m : Nat} {tv : D} (h : S[m]? = some (.lst (bare tv))) (z : Pt tv) : Rp S (.ref m) (.list (tupsPy [[.str "void"], [.str "row", .int 0, tv]])) :=
  .ref (lst_of h) (rps_tups (ts := [[.str "void"], [.str "row", .int 0, tv]]) fun t ht d hd => by
    simp only [List.mem_cons, List.mem_nil_iff, or_false] at ht
    rcases ht with rfl | rfl
    · simp only [List.mem_cons, List.mem_nil_iff, or_false] at hd
      rw [hd]
      rfl
    · simp only [List.mem_cons, List.mem_nil_iff, or_false] at hd
      rcases hd with rfl | rfl | rfl
      · rfl
      · rfl
      · exact z.pt)
theorem bare_ok {tv : D} (z : Pt tv) : SeqAt.shaped (.list (tupsPy [[.str "void"], [.str "row", .int 0, tv]])) = true ∧ SeqAt.shaped (.tuple [.list (tupsPy [[.str "void"], [.str "row", .int 0, tv]]), .list (tupsPy [[.str "void"], [.str "row", .int 0, tv]])]) = true := by
  have hk : ∀ t ∈ [[D.str "void"], [.str "row", .int 0, tv]], ∀ d ∈ t, okPt d = true := fun t ht d hd => by
    simp only [List.mem_cons, List.mem_nil_iff, or_false] at ht
    rcases ht with rfl | rfl
    · simp only [List.mem_cons, List.mem_nil_iff, or_false] at hd
      rw [hd]
      exact sz_void.ok
    · simp only [List.mem_cons, List.mem_nil_iff, or_false] at hd
      rcases hd with rfl | rfl | rfl
      · exact sz_row.ok
      · rfl
      · exact z.ok
  obtain ⟨h1, h2⟩ := lay_tups hk
  refine ⟨shaped_ltups hk, ?_⟩
  unfold SeqAt.shaped
  simp only [PyData.canLay0, PyData.canLayAll0, PyData.depth, PyData.depthAll, h1]
  simp
  omega
theorem law_true (ns : List Int) (hns : ns.length ≤ 63) : ∃ S, m_law [.ref 0] [.rdl (ns.map D.int)] = .ok (.bl true) S := by
  obtain ⟨d, U, e, rfl⟩ : ∃ d U, m_law [.ref 0] [.rdl (ns.map D.int)] = .ok d U ∧ d = .bl true := by
    refine We.ok (Q := fun d U => d = .bl true) (we_def ?_)
    unfold b_law
    have h0 : ([.rdl (ns.map D.int)] : Sto)[0]? = some (.rdl (ns.map D.int)) := rfl
    generalize ([.rdl (ns.map D.int)] : Sto) = T at *
    obtain ⟨c0, e0⟩ := r_cell ns h0 0 (by decide)
    obtain ⟨f, G, e1, st⟩ := r_stamper c0 T
    simp -dsimp [e0, e1]
    replace h0 := at_more (l := G) h0
    clear e0 e1
    generalize T ++ G = T1 at *
    obtain ⟨c1, e1⟩ := r_cell ns h0 1 (by decide)
    obtain ⟨c2, e2⟩ := r_cell ns h0 2 (by decide)
    obtain ⟨m, e3, m2⟩ := r_countby c1 T1
    have mp : (0 : Int) < (m : Int) + 1 := by omega
    obtain ⟨p, hp, ep⟩ : ∃ p : Nat, p ≤ m ∧ c2 % ((m : Int) + 1) = (p : Int) := by
      have a := Int.emod_nonneg c2 (show (m : Int) + 1 ≠ 0 by omega)
      have b := Int.emod_lt_of_pos c2 mp
      exact ⟨(c2 % ((m : Int) + 1)).toNat, by omega, by omega⟩
    obtain ⟨k, g, hk⟩ := gn.ex hp m2
    have em := r_lmany g hp (by omega) T1
    have sk : small62 (k : Int) = true := small62_is (by omega)
    simp -dsimp [e1, e2, e3, mp, ep, em, sk]
    refine we_lcg (fun _ y => Ent y) (show k < 16777216 by omega) (fun i S' hi ⟨G, hG⟩ => ?_) (fun _ => rfl) (fun ms G h1 h2 => ?_)
    · subst hG
      obtain ⟨v, ev⟩ := r_cell ns (at_more (l := G) h0) (9 + i) (by omega)
      have hi' : i < k := hi
      obtain ⟨y, G2, ey, hy⟩ := r_stampby (v + 5 * (i : Int)) (T1 ++ G)
      have cm : cMul1 5 (i : Int) = true := cMul1_l (by decide)
      exact ⟨_, rfl, _, rfl, y, G2, by simp [e1_law, ev, cm, ey], hy⟩
    have hl : ms.length = k := h1
    have hm : ∀ d ∈ ms, Ent d := fun d hd => by
      obtain ⟨i, hi, rfl⟩ := List.mem_iff_getElem.mp hd
      exact h2 i _ (List.getElem?_eq_getElem hi)
    clear h1 h2 e1 e2 e3 em
    have st3 := st.more (G := Ob.lst ms :: G)
    replace h0 := at_more (l := Ob.lst ms :: G) h0
    generalize hT3 : T1 ++ Ob.lst ms :: G = T3 at *
    have l3 : lstAt T3 T1.length = some ms := by rw [← hT3]; simp
    obtain ⟨d1, d2, T5, Q5, b1, b2, b3, b4, b5, b6, b7⟩ := r_rowsof g hl hp m2 hk hm st3 (by decide)
    replace h0 := b4 _ _ h0 (by simp)
    have i0 : atI [d1, d2] 0 = some d1 := rfl
    have i1 : atI [d1, d2] 1 = some d2 := rfl
    obtain ⟨d, T6, f1, rfl, Q6, f2, f3, f4⟩ := (r_refused h0 g hp m2 hk hl hm b2 (by decide) b5 b6).ok
    simp -dsimp [l3, b1, i0, f1]
    clear l3 b1 f1
    replace h0 := f4 _ _ h0 (by simp)
    obtain ⟨x1, x2, T7, Q7, a1, a2, a3, a4, a5, a6, a7⟩ := r_ganswer g hl hp m2 hk hm f2 (by decide) (b6.up (b := 70000) (k := 80000) (by decide))
    obtain ⟨z1, z2⟩ := a1.det ((b5.ext f3).ext a3)
    subst z1 z2
    rcases a7 with ⟨_, run⟩ | ⟨bad, _⟩
    · have eq2 := eq_pt a5 T7
      replace h0 := a4 _ _ h0 (by simp)
      have hfn := a2.fn
      obtain ⟨T8, tv, Q8, v1, v2, v3, v4, v5, v6⟩ := ask_void a2 (by decide)
      simp -dsimp [run, i1, eq2, hfn, v1]
      have st9 := v2.more (G := [Ob.lst (bare tv)])
      obtain ⟨U, tv2, Q9, w1, w2, w3, w4, w5, w6⟩ := r_gt0 st9 (by decide)
      have et : tv2 = tv := by
        have := w4 _ _ v3
        rw [w3] at this
        exact Option.some.inj this
      subst et
      replace h0 := w5 _ _ (at_more (l := [Ob.lst (bare tv2)]) (v5 _ _ h0 (by simp))) (by simp)
      have hW : U[T8.length]? = some (.lst (bare tv2)) := w5 _ _ (by simp) (by simp)
      have hWl := (List.getElem?_eq_some_iff.mp hW).1
      have w1' : m_growth_terms [.ref f, .int 0, .int 0, .tup []] (T8 ++ [.lst [.tup [.str "void"], .tup [.str "row", .int 0, tv2]]]) = .ok (.tup [.ref (U.length + 1), .ref U.length]) (U ++ [.lst [.tup [.str "void"], .tup [.str "row", .int 0, tv2]], .lst [.tup [.str "void"], .tup [.str "row", .int 0, tv2]]]) := w1
      have ptv : Pt tv2 := v6.up (by decide)
      obtain ⟨o1, o2⟩ := bare_ok ptv
      have rW : ∀ G : Sto, Rp (U ++ G) (.ref T8.length) _ := fun G => bare_rp (at_more (l := G) hW) ptv
      have rA : Rp (U ++ [.lst (bare tv2), .lst (bare tv2)]) (.ref (U.length + 1)) _ := bare_rp (by simp) ptv
      have rB : Rp (U ++ [.lst (bare tv2), .lst (bare tv2)]) (.ref U.length) _ := bare_rp (by simp) ptv
      have q1 : eqD (U ++ [.lst [.tup [.str "void"], .tup [.str "row", .int 0, tv2]], .lst [.tup [.str "void"], .tup [.str "row", .int 0, tv2]]]) (.tup [.ref (U.length + 1), .ref U.length]) (.tup [.ref T8.length, .ref T8.length]) = some true :=
        eqD_same rfl (.tup (.cons rA (.cons rB .nil))) (.tup (.cons (rW _) (.cons (rW _) .nil))) o2
      simp -dsimp [w1', q1]
      have rB2 : Rp (U ++ [.lst (bare tv2), .lst []]) (.ref U.length) _ := bare_rp (by simp) ptv
      have q2 : eqD (U ++ [.lst [.tup [.str "void"], .tup [.str "row", .int 0, tv2]], .lst []]) (.ref U.length) (.ref T8.length) = some true := eqD_same rfl rB2 (rW _) o1
      have st10 := w2.more (G := [.lst [.tup [.str "void"], .tup [.str "row", .int 0, tv2]], .lst []])
      obtain ⟨X, tv3, Q10, y1, y2, y3, y4, y5, y6⟩ := r_gt0 st10 (by decide)
      have et : tv3 = tv2 := by
        have := y4 _ _ w3
        rw [y3] at this
        exact Option.some.inj this
      subst et
      have hX := y5 _ _ (at_more (l := [.lst (bare tv3), .lst []]) hW) (by simp)
      have rA3 : Rp (X ++ [.lst (bare tv3), .lst (bare tv3)]) (.ref (X.length + 1)) _ := bare_rp (by simp) ptv
      have rB3 : Rp (X ++ [.lst (bare tv3), .lst (bare tv3)]) (.ref X.length) _ := bare_rp (by simp) ptv
      have rW3 : Rp (X ++ [.lst (bare tv3), .lst (bare tv3)]) (.ref T8.length) _ := bare_rp (at_more hX) ptv
      have q3 : eqD (X ++ [.lst [.tup [.str "void"], .tup [.str "row", .int 0, tv3]], .lst [.tup [.str "void"], .tup [.str "row", .int 0, tv3]]]) (.tup [.ref (X.length + 1), .ref X.length]) (.tup [.ref T8.length, .ref T8.length]) = some true :=
        eqD_same rfl (.tup (.cons rA3 (.cons rB3 .nil))) (.tup (.cons rW3 (.cons rW3 .nil))) o2
      have hX0 := y5 _ _ (at_more (l := [.lst (bare tv3), .lst []]) h0) (by simp)
      obtain ⟨Y, fin⟩ := r_rows hns (at_more (l := [.lst [.tup [.str "void"], .tup [.str "row", .int 0, tv3]], .lst [.tup [.str "void"], .tup [.str "row", .int 0, tv3]]]) hX0) (y2.more (G := [.lst [.tup [.str "void"], .tup [.str "row", .int 0, tv3]], .lst [.tup [.str "void"], .tup [.str "row", .int 0, tv3]]])) (by decide)
      simp -dsimp [q2, y1, q3, fin]
    · exact absurd rfl bad
  exact ⟨U, e⟩


def nm__law_weak : Nat → Nat → Str := nm1 ((("_law_weak" : Str) ++ (".<locals>." : Str)) ++ ("_law_stamp" : Str))
theorem hn__law_weak__0 : nm__law_weak (posS p__law_weak__0).1 (posS p__law_weak__0).2 = (("_law_weak" : Str) ++ (".<locals>." : Str)) ++ ("_law_stamp" : Str) := by decide +kernel
theorem mk__law_weak__0 : mkrB ["_law_many_here", "_law_stamp"] (defScope s__law_weak) W__law_weak__0 [0] = true := by decide +kernel
theorem sc__law_weak__0 : NdefX.NScope ["_law_term", "_law_many_here", "_law_total", "_law_part"] ["_law_term"] W__law_weak__0.fr W__law_weak__0.scope := NdefX.nscope_by (by decide +kernel)
def nm_writing : Nat → Nat → Str := nm1 ((("writing" : Str) ++ (".<locals>." : Str)) ++ ("<lambda>" : Str))
theorem hn_writing__1 : nm_writing (posS p_writing__1).1 (posS p_writing__1).2 = (("writing" : Str) ++ (".<locals>." : Str)) ++ ("<lambda>" : Str) := by decide +kernel
theorem mk_writing__1 : mkrB [] (defScope s_writing) W_writing__1 [] = true := by decide +kernel
theorem sc_writing__1 : NdefX.NScope ["term"] ["term"] W_writing__1.fr W_writing__1.scope := NdefX.nscope_by (by decide +kernel)
def nm_counting : Nat → Nat → Str := nm1 ((("counting" : Str) ++ (".<locals>." : Str)) ++ ("number_for" : Str))
theorem hn_counting__2 : nm_counting (posS p_counting__2).1 (posS p_counting__2).2 = (("counting" : Str) ++ (".<locals>." : Str)) ++ ("number_for" : Str) := by decide +kernel
theorem mk_counting__2 : mkrB ["number_for", "book"] (defScope s_counting) W_counting__2 [1] = true := by decide +kernel
theorem sc_counting__2 : NdefX.NScope ["term", "book"] ["term"] W_counting__2.fr W_counting__2.scope := NdefX.nscope_by (by decide +kernel)
def nm__law_sure : Nat → Nat → Str := nm1 ((("_law_sure" : Str) ++ (".<locals>." : Str)) ++ ("_law_stamp" : Str))
theorem hn__law_sure__3 : nm__law_sure (posS p__law_sure__3).1 (posS p__law_sure__3).2 = (("_law_sure" : Str) ++ (".<locals>." : Str)) ++ ("_law_stamp" : Str) := by decide +kernel
theorem mk__law_sure__3 : mkrB ["_law_step", "_law_stamp", "_law_known"] (defScope s__law_sure) W__law_sure__3 [2, 0] = true := by decide +kernel
theorem sc__law_sure__3 : NdefX.NScope ["_law_term", "_law_known", "_law_step"] ["_law_term"] W__law_sure__3.fr W__law_sure__3.scope := NdefX.nscope_by (by decide +kernel)
theorem sc__law_weak : FnScope ["_law_many_here", "_law_stamp"] ["_law_many_here"] (defScope s__law_weak) := ⟨rfl, rfl, rfl, by decide +kernel, rfl, by decide +kernel, by decide +kernel⟩
theorem sc_writing : FnScope [] [] (defScope s_writing) := ⟨rfl, rfl, rfl, by decide +kernel, rfl, by decide +kernel, by decide +kernel⟩
theorem sc_counting : FnScope ["number_for", "book"] [] (defScope s_counting) := ⟨rfl, rfl, rfl, by decide +kernel, rfl, by decide +kernel, by decide +kernel⟩
theorem sc__law_sure : FnScope ["_law_step", "_law_stamp", "_law_known"] ["_law_step"] (defScope s__law_sure) := ⟨rfl, rfl, rfl, by decide +kernel, rfl, by decide +kernel, by decide +kernel⟩
theorem sc__law_stamper : FnScope ["_law_cell"] ["_law_cell"] (defScope s__law_stamper) := ⟨rfl, rfl, rfl, by decide +kernel, rfl, by decide +kernel, by decide +kernel⟩
theorem sc__law_count_by : FnScope ["_law_cell"] ["_law_cell"] (defScope s__law_count_by) := ⟨rfl, rfl, rfl, by decide +kernel, rfl, by decide +kernel, by decide +kernel⟩
theorem sc__law_half : FnScope ["_law_many_here", "_law_cut"] ["_law_many_here"] (defScope s__law_half) := ⟨rfl, rfl, rfl, by decide +kernel, rfl, by decide +kernel, by decide +kernel⟩
theorem sc__law_many : FnScope ["_law_count", "_law_elder", "_law_found", "_law_cut"] ["_law_count", "_law_elder"] (defScope s__law_many) := ⟨rfl, rfl, rfl, by decide +kernel, rfl, by decide +kernel, by decide +kernel⟩
theorem sc_is_whole : FnScope ["thing"] ["thing"] (defScope s_is_whole) := ⟨rfl, rfl, rfl, by decide +kernel, rfl, by decide +kernel, by decide +kernel⟩
theorem sc_is_stamp : FnScope ["thing"] ["thing"] (defScope s_is_stamp) := ⟨rfl, rfl, rfl, by decide +kernel, rfl, by decide +kernel, by decide +kernel⟩
theorem sc_is_term : FnScope ["thing", "part"] ["thing"] (defScope s_is_term) := ⟨rfl, rfl, rfl, by decide +kernel, rfl, by decide +kernel, by decide +kernel⟩
theorem sc_part_written : FnScope ["part"] ["part"] (defScope s_part_written) := ⟨rfl, rfl, rfl, by decide +kernel, rfl, by decide +kernel, by decide +kernel⟩
theorem sc_written : FnScope ["term", "part"] ["term"] (defScope s_written) := ⟨rfl, rfl, rfl, by decide +kernel, rfl, by decide +kernel, by decide +kernel⟩
theorem sc__law_tops : FnScope ["_law_stamper_here", "_law_count", "_law_elder", "_law_marks", "_law_cut", "_law_young", "_law_old"] ["_law_stamper_here", "_law_count", "_law_elder", "_law_marks"] (defScope s__law_tops) := ⟨rfl, rfl, rfl, by decide +kernel, rfl, by decide +kernel, by decide +kernel⟩
theorem sc__law_rows_of : FnScope ["_law_stamper_here", "_law_count", "_law_elder", "_law_marks", "_law_void", "_law_tops_here"] ["_law_stamper_here", "_law_count", "_law_elder", "_law_marks"] (defScope s__law_rows_of) := ⟨rfl, rfl, rfl, by decide +kernel, rfl, by decide +kernel, by decide +kernel⟩
theorem sc_is_marks : FnScope ["thing", "many", "mark"] ["thing", "many"] (defScope s_is_marks) := ⟨rfl, rfl, rfl, by decide +kernel, rfl, by decide +kernel, by decide +kernel⟩
theorem sc_half : FnScope ["many"] ["many"] (defScope s_half) := ⟨rfl, rfl, rfl, by decide +kernel, rfl, by decide +kernel, by decide +kernel⟩
theorem sc_joined : FnScope ["stamper", "count", "elder", "marks", "cut", "joint", "other", "younger", "older"] ["stamper", "count", "elder", "marks"] (defScope s_joined) := ⟨rfl, rfl, rfl, by decide +kernel, rfl, by decide +kernel, by decide +kernel⟩
theorem sc_is_below : FnScope ["thing", "many"] ["thing", "many"] (defScope s_is_below) := ⟨rfl, rfl, rfl, by decide +kernel, rfl, by decide +kernel, by decide +kernel⟩
theorem sc_how_many : FnScope ["count", "elder", "found", "cut"] ["count", "elder"] (defScope s_how_many) := ⟨rfl, rfl, rfl, by decide +kernel, rfl, by decide +kernel, by decide +kernel⟩
theorem sc_growth_terms : FnScope ["stamper", "count", "elder", "marks", "bare", "younger", "older"] ["stamper", "count", "elder", "marks"] (defScope s_growth_terms) := ⟨rfl, rfl, rfl, by decide +kernel, rfl, by decide +kernel, by decide +kernel⟩
theorem sc__law_cell_at : FnScope ["_law_script", "_law_k"] ["_law_script", "_law_k"] (defScope s__law_cell_at) := ⟨rfl, rfl, rfl, by decide +kernel, rfl, by decide +kernel, by decide +kernel⟩
theorem sc__law_first : FnScope ["_law_flags", "_law_k"] ["_law_flags"] (defScope s__law_first) := ⟨rfl, rfl, rfl, by decide +kernel, rfl, by decide +kernel, by decide +kernel⟩
theorem sc__law_is : FnScope ["_law_caught_here", "_law_number", "_law_kinds", "_law_k"] ["_law_caught_here", "_law_number"] (defScope s__law_is) := ⟨rfl, rfl, rfl, by decide +kernel, rfl, by decide +kernel, by decide +kernel⟩
theorem sc__law_no_count : FnScope ["_law_cell", "_law_count", "_law_some"] ["_law_cell", "_law_count"] (defScope s__law_no_count) := ⟨rfl, rfl, rfl, by decide +kernel, rfl, by decide +kernel, by decide +kernel⟩
theorem sc__law_no_elder : FnScope ["_law_cell", "_law_count", "_law_number", "_law_some"] ["_law_cell", "_law_count"] (defScope s__law_no_elder) := ⟨rfl, rfl, rfl, by decide +kernel, rfl, by decide +kernel, by decide +kernel⟩
theorem sc__law_no_stamp : FnScope ["_law_cell", "_law_number", "_law_some"] ["_law_cell"] (defScope s__law_no_stamp) := ⟨rfl, rfl, rfl, by decide +kernel, rfl, by decide +kernel, by decide +kernel⟩
theorem sc__law_no_paper : FnScope ["_law_cell", "_law_marks", "_law_spot", "_law_thing", "_law_some"] ["_law_cell", "_law_marks"] (defScope s__law_no_paper) := ⟨rfl, rfl, rfl, by decide +kernel, rfl, by decide +kernel, by decide +kernel⟩
theorem sc__law_no_head : FnScope ["_law_cell", "_law_count", "_law_mark", "_law_some"] ["_law_cell", "_law_count", "_law_mark"] (defScope s__law_no_head) := ⟨rfl, rfl, rfl, by decide +kernel, rfl, by decide +kernel, by decide +kernel⟩
theorem sc_Broken___init__ : FnScope ["self", "due", "came"] ["self", "due", "came"] (defScope s_Broken___init__) := ⟨rfl, rfl, rfl, by decide +kernel, rfl, by decide +kernel, by decide +kernel⟩
theorem sc_is_head : FnScope ["thing"] ["thing"] (defScope s_is_head) := ⟨rfl, rfl, rfl, by decide +kernel, rfl, by decide +kernel, by decide +kernel⟩
theorem sc_growth_answer : FnScope ["stamper", "head", "elder", "marks", "came", "younger", "older"] ["stamper", "head", "elder", "marks"] (defScope s_growth_answer) := ⟨rfl, rfl, rfl, by decide +kernel, rfl, by decide +kernel, by decide +kernel⟩
theorem sc__law_caught : FnScope ["_law_what", "_law_stamper_here", "_law_top", "_law_elder", "_law_marks", "_law_caught_here", "e"] ["_law_what", "_law_stamper_here", "_law_top", "_law_elder", "_law_marks"] (defScope s__law_caught) := ⟨rfl, rfl, rfl, by decide +kernel, rfl, by decide +kernel, by decide +kernel⟩
theorem sc__law_text_by : FnScope ["_law_cell", "_law_some", "_law_k"] ["_law_cell"] (defScope s__law_text_by) := ⟨rfl, rfl, rfl, by decide +kernel, rfl, by decide +kernel, by decide +kernel⟩
theorem sc__law_stamp_by : FnScope ["_law_cell"] ["_law_cell"] (defScope s__law_stamp_by) := ⟨rfl, rfl, rfl, by decide +kernel, rfl, by decide +kernel, by decide +kernel⟩
theorem sc__law_other : FnScope ["_law_cell", "_law_mark"] ["_law_cell", "_law_mark"] (defScope s__law_other) := ⟨rfl, rfl, rfl, by decide +kernel, rfl, by decide +kernel, by decide +kernel⟩
theorem sc__law_refused : FnScope ["_law_stamper_here", "_law_script", "_law_count", "_law_elder", "_law_marks", "_law_mark", "_law_wrong", "_law_more", "_law_top", "_law_due", "_law_head", "_law_other_here", "_law_k"] ["_law_stamper_here", "_law_script", "_law_count", "_law_elder", "_law_marks", "_law_mark"] (defScope s__law_refused) := ⟨rfl, rfl, rfl, by decide +kernel, rfl, by decide +kernel, by decide +kernel⟩
theorem sc_Row___init__ : FnScope ["self", "stamper"] ["self", "stamper"] (defScope s_Row___init__) := ⟨rfl, rfl, rfl, by decide +kernel, rfl, by decide +kernel, by decide +kernel⟩
theorem sc_top_of : FnScope ["stamper", "entries", "many", "cut", "left", "right"] ["stamper", "entries"] (defScope s_top_of) := ⟨rfl, rfl, rfl, by decide +kernel, rfl, by decide +kernel, by decide +kernel⟩
theorem sc_Row_first : FnScope ["self", "count"] ["self", "count"] (defScope s_Row_first) := ⟨rfl, rfl, rfl, by decide +kernel, rfl, by decide +kernel, by decide +kernel⟩
theorem sc_Row_mark_at : FnScope ["self", "count", "top"] ["self", "count"] (defScope s_Row_mark_at) := ⟨rfl, rfl, rfl, by decide +kernel, rfl, by decide +kernel, by decide +kernel⟩
theorem sc_Row_add : FnScope ["self", "entry"] ["self", "entry"] (defScope s_Row_add) := ⟨rfl, rfl, rfl, by decide +kernel, rfl, by decide +kernel, by decide +kernel⟩
theorem sc__law_near : FnScope ["_law_cell", "_law_size"] ["_law_cell", "_law_size"] (defScope s__law_near) := ⟨rfl, rfl, rfl, by decide +kernel, rfl, by decide +kernel, by decide +kernel⟩
theorem sc__law_whole : FnScope ["_law_found"] ["_law_found"] (defScope s__law_whole) := ⟨rfl, rfl, rfl, by decide +kernel, rfl, by decide +kernel, by decide +kernel⟩
theorem sc__law_within : FnScope ["_law_thing", "_law_many_here"] ["_law_thing", "_law_many_here"] (defScope s__law_within) := ⟨rfl, rfl, rfl, by decide +kernel, rfl, by decide +kernel, by decide +kernel⟩
theorem sc_Row_size : FnScope ["self"] ["self"] (defScope s_Row_size) := ⟨rfl, rfl, rfl, by decide +kernel, rfl, by decide +kernel, by decide +kernel⟩
theorem sc_grown : FnScope ["stamper", "entries", "elder", "many", "cut", "first"] ["stamper", "entries", "elder"] (defScope s_grown) := ⟨rfl, rfl, rfl, by decide +kernel, rfl, by decide +kernel, by decide +kernel⟩
theorem sc_Row_growth_paper : FnScope ["self", "count", "elder", "entries"] ["self", "count", "elder"] (defScope s_Row_growth_paper) := ⟨rfl, rfl, rfl, by decide +kernel, rfl, by decide +kernel, by decide +kernel⟩
theorem sc__law_asked : FnScope ["_law_what", "_law_row", "_law_one", "_law_other_here", "_law_caught_here", "e"] ["_law_what", "_law_row", "_law_one", "_law_other_here"] (defScope s__law_asked) := ⟨rfl, rfl, rfl, by decide +kernel, rfl, by decide +kernel, by decide +kernel⟩
theorem sc__law_rows : FnScope ["_law_stamper_here", "_law_script", "_law_row", "_law_size", "_law_k", "_law_mark", "_law_cell", "_law_one", "_law_other_here", "_law_good"] ["_law_stamper_here", "_law_script"] (defScope s__law_rows) := ⟨rfl, rfl, rfl, by decide +kernel, rfl, by decide +kernel, by decide +kernel⟩
theorem sc_law : FnScope ["_law_script", "_law_stamper_here", "_law_count", "_law_elder", "_law_many_here", "_law_marks", "_law_due", "_law_void", "_law_found", "_law_k"] ["_law_script"] (defScope s_law) := ⟨rfl, rfl, rfl, by decide +kernel, rfl, by decide +kernel, by decide +kernel⟩
structure Ad where
  f__law_weak : Addr
  d__law_weak : FuncData
  f_writing : Addr
  d_writing : FuncData
  f_counting : Addr
  d_counting : FuncData
  f__law_sure : Addr
  d__law_sure : FuncData
  f__law_stamper : Addr
  d__law_stamper : FuncData
  f__law_count_by : Addr
  d__law_count_by : FuncData
  f__law_half : Addr
  d__law_half : FuncData
  f__law_many : Addr
  d__law_many : FuncData
  f_is_whole : Addr
  d_is_whole : FuncData
  f_is_stamp : Addr
  d_is_stamp : FuncData
  f_is_term : Addr
  d_is_term : FuncData
  f_part_written : Addr
  d_part_written : FuncData
  f_written : Addr
  d_written : FuncData
  f__law_tops : Addr
  d__law_tops : FuncData
  f__law_rows_of : Addr
  d__law_rows_of : FuncData
  f_is_marks : Addr
  d_is_marks : FuncData
  f_half : Addr
  d_half : FuncData
  f_joined : Addr
  d_joined : FuncData
  f_is_below : Addr
  d_is_below : FuncData
  f_how_many : Addr
  d_how_many : FuncData
  f_growth_terms : Addr
  d_growth_terms : FuncData
  f__law_cell_at : Addr
  d__law_cell_at : FuncData
  f__law_first : Addr
  d__law_first : FuncData
  f__law_is : Addr
  d__law_is : FuncData
  f__law_no_count : Addr
  d__law_no_count : FuncData
  f__law_no_elder : Addr
  d__law_no_elder : FuncData
  f__law_no_stamp : Addr
  d__law_no_stamp : FuncData
  f__law_no_paper : Addr
  d__law_no_paper : FuncData
  f__law_no_head : Addr
  d__law_no_head : FuncData
  f_Broken___init__ : Addr
  d_Broken___init__ : FuncData
  f_is_head : Addr
  d_is_head : FuncData
  f_growth_answer : Addr
  d_growth_answer : FuncData
  f__law_caught : Addr
  d__law_caught : FuncData
  f__law_text_by : Addr
  d__law_text_by : FuncData
  f__law_stamp_by : Addr
  d__law_stamp_by : FuncData
  f__law_other : Addr
  d__law_other : FuncData
  f__law_refused : Addr
  d__law_refused : FuncData
  f_Row___init__ : Addr
  d_Row___init__ : FuncData
  f_top_of : Addr
  d_top_of : FuncData
  f_Row_first : Addr
  d_Row_first : FuncData
  f_Row_mark_at : Addr
  d_Row_mark_at : FuncData
  f_Row_add : Addr
  d_Row_add : FuncData
  f__law_near : Addr
  d__law_near : FuncData
  f__law_whole : Addr
  d__law_whole : FuncData
  f__law_within : Addr
  d__law_within : FuncData
  f_Row_size : Addr
  d_Row_size : FuncData
  f_grown : Addr
  d_grown : FuncData
  f_Row_growth_paper : Addr
  d_Row_growth_paper : FuncData
  f__law_asked : Addr
  d__law_asked : FuncData
  f__law_rows : Addr
  d__law_rows : FuncData
  f_law : Addr
  d_law : FuncData
  c__law_weak : Addr
  t__law_weak : Addr
  c_writing : Addr
  t_writing : Addr
  c_counting : Addr
  t_counting : Addr
  c__law_sure : Addr
  t__law_sure : Addr

  k_Broken : Addr
  k_NoHead : Addr
  k_NoPaper : Addr
  k_NoPlace : Addr
  k_NoStamp : Addr
  k_NoTerm : Addr
  k_Row : Addr
  k_StampError : Addr
structure Txt [TabCfg] (K : PySem.W.Frag) (mg : Str → Option Value) (a : Ad) (base : Heap) : Prop where
  L__law_weak : MakerAt K "_law_weak" "_law_weak" s__law_weak a.f__law_weak a.c__law_weak a.d__law_weak
  t__law_weak : LamX.TabB base mg a.c__law_weak a.t__law_weak
  B__law_weak : (a.t__law_weak, nm__law_weak) ∈ TabCfg.tabs ∧ ∀ p ∈ TabCfg.tabs, p.1 = a.t__law_weak → p.2 = nm__law_weak
  L_writing : MakerAt K "writing" "writing" s_writing a.f_writing a.c_writing a.d_writing
  t_writing : LamX.TabB base mg a.c_writing a.t_writing
  B_writing : (a.t_writing, nm_writing) ∈ TabCfg.tabs ∧ ∀ p ∈ TabCfg.tabs, p.1 = a.t_writing → p.2 = nm_writing
  L_counting : MakerAt K "counting" "counting" s_counting a.f_counting a.c_counting a.d_counting
  t_counting : LamX.TabB base mg a.c_counting a.t_counting
  B_counting : (a.t_counting, nm_counting) ∈ TabCfg.tabs ∧ ∀ p ∈ TabCfg.tabs, p.1 = a.t_counting → p.2 = nm_counting
  L__law_sure : MakerAt K "_law_sure" "_law_sure" s__law_sure a.f__law_sure a.c__law_sure a.d__law_sure
  t__law_sure : LamX.TabB base mg a.c__law_sure a.t__law_sure
  B__law_sure : (a.t__law_sure, nm__law_sure) ∈ TabCfg.tabs ∧ ∀ p ∈ TabCfg.tabs, p.1 = a.t__law_sure → p.2 = nm__law_sure
  F__law_weak : Fun K "_law_weak" "_law_weak" s__law_weak a.f__law_weak a.d__law_weak
  b__law_weak : Binds K a.d__law_weak ["_law_many_here"] []
  g__law_weak : mg "_law_weak" = some (.ref a.f__law_weak)
  F_writing : Fun K "writing" "writing" s_writing a.f_writing a.d_writing
  b_writing : Binds K a.d_writing [] []
  g_writing : mg "writing" = some (.ref a.f_writing)
  F_counting : Fun K "counting" "counting" s_counting a.f_counting a.d_counting
  b_counting : Binds K a.d_counting [] []
  g_counting : mg "counting" = some (.ref a.f_counting)
  F__law_sure : Fun K "_law_sure" "_law_sure" s__law_sure a.f__law_sure a.d__law_sure
  b__law_sure : Binds K a.d__law_sure ["_law_step"] []
  g__law_sure : mg "_law_sure" = some (.ref a.f__law_sure)
  F__law_stamper : Fun K "_law_stamper" "_law_stamper" s__law_stamper a.f__law_stamper a.d__law_stamper
  b__law_stamper : Binds K a.d__law_stamper ["_law_cell"] []
  g__law_stamper : mg "_law_stamper" = some (.ref a.f__law_stamper)
  F__law_count_by : Fun K "_law_count_by" "_law_count_by" s__law_count_by a.f__law_count_by a.d__law_count_by
  b__law_count_by : Binds K a.d__law_count_by ["_law_cell"] []
  g__law_count_by : mg "_law_count_by" = some (.ref a.f__law_count_by)
  F__law_half : Fun K "_law_half" "_law_half" s__law_half a.f__law_half a.d__law_half
  b__law_half : Binds K a.d__law_half ["_law_many_here"] []
  g__law_half : mg "_law_half" = some (.ref a.f__law_half)
  F__law_many : Fun K "_law_many" "_law_many" s__law_many a.f__law_many a.d__law_many
  b__law_many : Binds K a.d__law_many ["_law_count", "_law_elder"] []
  g__law_many : mg "_law_many" = some (.ref a.f__law_many)
  F_is_whole : Fun K "is_whole" "is_whole" s_is_whole a.f_is_whole a.d_is_whole
  b_is_whole : Binds K a.d_is_whole ["thing"] []
  g_is_whole : mg "is_whole" = some (.ref a.f_is_whole)
  F_is_stamp : Fun K "is_stamp" "is_stamp" s_is_stamp a.f_is_stamp a.d_is_stamp
  b_is_stamp : Binds K a.d_is_stamp ["thing"] []
  g_is_stamp : mg "is_stamp" = some (.ref a.f_is_stamp)
  F_is_term : Fun K "is_term" "is_term" s_is_term a.f_is_term a.d_is_term
  b_is_term : Binds K a.d_is_term ["thing"] []
  g_is_term : mg "is_term" = some (.ref a.f_is_term)
  F_part_written : Fun K "part_written" "part_written" s_part_written a.f_part_written a.d_part_written
  b_part_written : Binds K a.d_part_written ["part"] []
  g_part_written : mg "part_written" = some (.ref a.f_part_written)
  F_written : Fun K "written" "written" s_written a.f_written a.d_written
  b_written : Binds K a.d_written ["term"] []
  g_written : mg "written" = some (.ref a.f_written)
  F__law_tops : Fun K "_law_tops" "_law_tops" s__law_tops a.f__law_tops a.d__law_tops
  b__law_tops : Binds K a.d__law_tops ["_law_stamper_here", "_law_count", "_law_elder", "_law_marks"] []
  g__law_tops : mg "_law_tops" = some (.ref a.f__law_tops)
  F__law_rows_of : Fun K "_law_rows_of" "_law_rows_of" s__law_rows_of a.f__law_rows_of a.d__law_rows_of
  b__law_rows_of : Binds K a.d__law_rows_of ["_law_stamper_here", "_law_count", "_law_elder", "_law_marks"] []
  g__law_rows_of : mg "_law_rows_of" = some (.ref a.f__law_rows_of)
  F_is_marks : Fun K "is_marks" "is_marks" s_is_marks a.f_is_marks a.d_is_marks
  b_is_marks : Binds K a.d_is_marks ["thing", "many"] []
  g_is_marks : mg "is_marks" = some (.ref a.f_is_marks)
  F_half : Fun K "half" "half" s_half a.f_half a.d_half
  b_half : Binds K a.d_half ["many"] []
  g_half : mg "half" = some (.ref a.f_half)
  F_joined : Fun K "joined" "joined" s_joined a.f_joined a.d_joined
  b_joined : Binds K a.d_joined ["stamper", "count", "elder", "marks"] []
  g_joined : mg "joined" = some (.ref a.f_joined)
  F_is_below : Fun K "is_below" "is_below" s_is_below a.f_is_below a.d_is_below
  b_is_below : Binds K a.d_is_below ["thing", "many"] []
  g_is_below : mg "is_below" = some (.ref a.f_is_below)
  F_how_many : Fun K "how_many" "how_many" s_how_many a.f_how_many a.d_how_many
  b_how_many : Binds K a.d_how_many ["count", "elder"] []
  g_how_many : mg "how_many" = some (.ref a.f_how_many)
  F_growth_terms : Fun K "growth_terms" "growth_terms" s_growth_terms a.f_growth_terms a.d_growth_terms
  b_growth_terms : Binds K a.d_growth_terms ["stamper", "count", "elder", "marks"] []
  g_growth_terms : mg "growth_terms" = some (.ref a.f_growth_terms)
  F__law_cell_at : Fun K "_law_cell_at" "_law_cell_at" s__law_cell_at a.f__law_cell_at a.d__law_cell_at
  b__law_cell_at : Binds K a.d__law_cell_at ["_law_script", "_law_k"] []
  g__law_cell_at : mg "_law_cell_at" = some (.ref a.f__law_cell_at)
  F__law_first : Fun K "_law_first" "_law_first" s__law_first a.f__law_first a.d__law_first
  b__law_first : Binds K a.d__law_first ["_law_flags"] []
  g__law_first : mg "_law_first" = some (.ref a.f__law_first)
  F__law_is : Fun K "_law_is" "_law_is" s__law_is a.f__law_is a.d__law_is
  b__law_is : Binds K a.d__law_is ["_law_caught_here", "_law_number"] []
  g__law_is : mg "_law_is" = some (.ref a.f__law_is)
  F__law_no_count : Fun K "_law_no_count" "_law_no_count" s__law_no_count a.f__law_no_count a.d__law_no_count
  b__law_no_count : Binds K a.d__law_no_count ["_law_cell", "_law_count"] []
  g__law_no_count : mg "_law_no_count" = some (.ref a.f__law_no_count)
  F__law_no_elder : Fun K "_law_no_elder" "_law_no_elder" s__law_no_elder a.f__law_no_elder a.d__law_no_elder
  b__law_no_elder : Binds K a.d__law_no_elder ["_law_cell", "_law_count"] []
  g__law_no_elder : mg "_law_no_elder" = some (.ref a.f__law_no_elder)
  F__law_no_stamp : Fun K "_law_no_stamp" "_law_no_stamp" s__law_no_stamp a.f__law_no_stamp a.d__law_no_stamp
  b__law_no_stamp : Binds K a.d__law_no_stamp ["_law_cell"] []
  g__law_no_stamp : mg "_law_no_stamp" = some (.ref a.f__law_no_stamp)
  F__law_no_paper : Fun K "_law_no_paper" "_law_no_paper" s__law_no_paper a.f__law_no_paper a.d__law_no_paper
  b__law_no_paper : Binds K a.d__law_no_paper ["_law_cell", "_law_marks"] []
  g__law_no_paper : mg "_law_no_paper" = some (.ref a.f__law_no_paper)
  F__law_no_head : Fun K "_law_no_head" "_law_no_head" s__law_no_head a.f__law_no_head a.d__law_no_head
  b__law_no_head : Binds K a.d__law_no_head ["_law_cell", "_law_count", "_law_mark"] []
  g__law_no_head : mg "_law_no_head" = some (.ref a.f__law_no_head)
  F_Broken___init__ : Fun K "__init__" "Broken.__init__" s_Broken___init__ a.f_Broken___init__ a.d_Broken___init__
  b_Broken___init__ : Binds K a.d_Broken___init__ ["self", "due", "came"] []
  F_is_head : Fun K "is_head" "is_head" s_is_head a.f_is_head a.d_is_head
  b_is_head : Binds K a.d_is_head ["thing"] []
  g_is_head : mg "is_head" = some (.ref a.f_is_head)
  F_growth_answer : Fun K "growth_answer" "growth_answer" s_growth_answer a.f_growth_answer a.d_growth_answer
  b_growth_answer : Binds K a.d_growth_answer ["stamper", "head", "elder", "marks"] []
  g_growth_answer : mg "growth_answer" = some (.ref a.f_growth_answer)
  F__law_caught : Fun K "_law_caught" "_law_caught" s__law_caught a.f__law_caught a.d__law_caught
  b__law_caught : Binds K a.d__law_caught ["_law_what", "_law_stamper_here", "_law_top", "_law_elder", "_law_marks"] []
  g__law_caught : mg "_law_caught" = some (.ref a.f__law_caught)
  F__law_text_by : Fun K "_law_text_by" "_law_text_by" s__law_text_by a.f__law_text_by a.d__law_text_by
  b__law_text_by : Binds K a.d__law_text_by ["_law_cell"] []
  g__law_text_by : mg "_law_text_by" = some (.ref a.f__law_text_by)
  F__law_stamp_by : Fun K "_law_stamp_by" "_law_stamp_by" s__law_stamp_by a.f__law_stamp_by a.d__law_stamp_by
  b__law_stamp_by : Binds K a.d__law_stamp_by ["_law_cell"] []
  g__law_stamp_by : mg "_law_stamp_by" = some (.ref a.f__law_stamp_by)
  F__law_other : Fun K "_law_other" "_law_other" s__law_other a.f__law_other a.d__law_other
  b__law_other : Binds K a.d__law_other ["_law_cell", "_law_mark"] []
  g__law_other : mg "_law_other" = some (.ref a.f__law_other)
  F__law_refused : Fun K "_law_refused" "_law_refused" s__law_refused a.f__law_refused a.d__law_refused
  b__law_refused : Binds K a.d__law_refused ["_law_stamper_here", "_law_script", "_law_count", "_law_elder", "_law_marks", "_law_mark"] []
  g__law_refused : mg "_law_refused" = some (.ref a.f__law_refused)
  F_Row___init__ : Fun K "__init__" "Row.__init__" s_Row___init__ a.f_Row___init__ a.d_Row___init__
  b_Row___init__ : Binds K a.d_Row___init__ ["self", "stamper"] []
  F_top_of : Fun K "top_of" "top_of" s_top_of a.f_top_of a.d_top_of
  b_top_of : Binds K a.d_top_of ["stamper", "entries"] []
  g_top_of : mg "top_of" = some (.ref a.f_top_of)
  F_Row_first : Fun K "first" "Row.first" s_Row_first a.f_Row_first a.d_Row_first
  b_Row_first : Binds K a.d_Row_first ["self", "count"] []
  F_Row_mark_at : Fun K "mark_at" "Row.mark_at" s_Row_mark_at a.f_Row_mark_at a.d_Row_mark_at
  b_Row_mark_at : Binds K a.d_Row_mark_at ["self", "count"] []
  F_Row_add : Fun K "add" "Row.add" s_Row_add a.f_Row_add a.d_Row_add
  b_Row_add : Binds K a.d_Row_add ["self", "entry"] []
  F__law_near : Fun K "_law_near" "_law_near" s__law_near a.f__law_near a.d__law_near
  b__law_near : Binds K a.d__law_near ["_law_cell", "_law_size"] []
  g__law_near : mg "_law_near" = some (.ref a.f__law_near)
  F__law_whole : Fun K "_law_whole" "_law_whole" s__law_whole a.f__law_whole a.d__law_whole
  b__law_whole : Binds K a.d__law_whole ["_law_found"] []
  g__law_whole : mg "_law_whole" = some (.ref a.f__law_whole)
  F__law_within : Fun K "_law_within" "_law_within" s__law_within a.f__law_within a.d__law_within
  b__law_within : Binds K a.d__law_within ["_law_thing", "_law_many_here"] []
  g__law_within : mg "_law_within" = some (.ref a.f__law_within)
  F_Row_size : Fun K "size" "Row.size" s_Row_size a.f_Row_size a.d_Row_size
  b_Row_size : Binds K a.d_Row_size ["self"] []
  F_grown : Fun K "grown" "grown" s_grown a.f_grown a.d_grown
  b_grown : Binds K a.d_grown ["stamper", "entries", "elder"] []
  g_grown : mg "grown" = some (.ref a.f_grown)
  F_Row_growth_paper : Fun K "growth_paper" "Row.growth_paper" s_Row_growth_paper a.f_Row_growth_paper a.d_Row_growth_paper
  b_Row_growth_paper : Binds K a.d_Row_growth_paper ["self", "count", "elder"] []
  F__law_asked : Fun K "_law_asked" "_law_asked" s__law_asked a.f__law_asked a.d__law_asked
  b__law_asked : Binds K a.d__law_asked ["_law_what", "_law_row", "_law_one", "_law_other_here"] []
  g__law_asked : mg "_law_asked" = some (.ref a.f__law_asked)
  F__law_rows : Fun K "_law_rows" "_law_rows" s__law_rows a.f__law_rows a.d__law_rows
  b__law_rows : Binds K a.d__law_rows ["_law_stamper_here", "_law_script"] []
  g__law_rows : mg "_law_rows" = some (.ref a.f__law_rows)
  F_law : Fun K "law" "law" s_law a.f_law a.d_law
  b_law : Binds K a.d_law ["_law_script"] []
  g_law : mg "law" = some (.ref a.f_law)
  z_ValueError : mg "ValueError" = none
  z_bool : mg "bool" = none
  z_int : mg "int" = none
  z_isinstance : mg "isinstance" = none
  z_len : mg "len" = none
  z_list : mg "list" = none
  z_max : mg "max" = none
  z_min : mg "min" = none
  z_range : mg "range" = none
  z_str : mg "str" = none
  z_tuple : mg "tuple" = none
  G_Broken : mg "Broken" = some (.ref a.k_Broken)
  X_Broken : OexC K a.k_Broken
  x1_Broken : PySem.W.findIn K (.ref a.k_Broken) "due" = some none
  x2_Broken : PySem.W.findIn K (.ref a.k_Broken) "came" = some none
  I_Broken : PySem.W.findIn K (.ref a.k_Broken) "__init__" = some (some (.ref a.f_Broken___init__))
  i_Broken : PySem.W.typeIn K (.ref a.f_Broken___init__) = some (.type "function")
  G_NoHead : mg "NoHead" = some (.ref a.k_NoHead)
  Q_NoHead : PySem.W.excIn K a.k_NoHead [.type "ValueError", .type "Exception", .type "BaseException", .type "object"] "ValueError.__new__" = true
  K_NoHead : PySem.W.keepIn K (.ref a.k_NoHead) = true
  S_NoHead : PySem.W.subIn K (.ref a.k_NoHead) (.type "BaseException") = some true
  T_NoHead : PySem.W.typeIn K (.ref a.k_NoHead) = some (.type "type")
  G_NoPaper : mg "NoPaper" = some (.ref a.k_NoPaper)
  Q_NoPaper : PySem.W.excIn K a.k_NoPaper [.type "ValueError", .type "Exception", .type "BaseException", .type "object"] "ValueError.__new__" = true
  K_NoPaper : PySem.W.keepIn K (.ref a.k_NoPaper) = true
  S_NoPaper : PySem.W.subIn K (.ref a.k_NoPaper) (.type "BaseException") = some true
  T_NoPaper : PySem.W.typeIn K (.ref a.k_NoPaper) = some (.type "type")
  G_NoPlace : mg "NoPlace" = some (.ref a.k_NoPlace)
  Q_NoPlace : PySem.W.excIn K a.k_NoPlace [.type "ValueError", .type "Exception", .type "BaseException", .type "object"] "ValueError.__new__" = true
  K_NoPlace : PySem.W.keepIn K (.ref a.k_NoPlace) = true
  S_NoPlace : PySem.W.subIn K (.ref a.k_NoPlace) (.type "BaseException") = some true
  T_NoPlace : PySem.W.typeIn K (.ref a.k_NoPlace) = some (.type "type")
  G_NoStamp : mg "NoStamp" = some (.ref a.k_NoStamp)
  Q_NoStamp : PySem.W.excIn K a.k_NoStamp [.type "ValueError", .type "Exception", .type "BaseException", .type "object"] "ValueError.__new__" = true
  K_NoStamp : PySem.W.keepIn K (.ref a.k_NoStamp) = true
  S_NoStamp : PySem.W.subIn K (.ref a.k_NoStamp) (.type "BaseException") = some true
  T_NoStamp : PySem.W.typeIn K (.ref a.k_NoStamp) = some (.type "type")
  G_NoTerm : mg "NoTerm" = some (.ref a.k_NoTerm)
  Q_NoTerm : PySem.W.excIn K a.k_NoTerm [.type "ValueError", .type "Exception", .type "BaseException", .type "object"] "ValueError.__new__" = true
  K_NoTerm : PySem.W.keepIn K (.ref a.k_NoTerm) = true
  S_NoTerm : PySem.W.subIn K (.ref a.k_NoTerm) (.type "BaseException") = some true
  T_NoTerm : PySem.W.typeIn K (.ref a.k_NoTerm) = some (.type "type")
  G_Row : mg "Row" = some (.ref a.k_Row)
  G_StampError : mg "StampError" = some (.ref a.k_StampError)
  J_StampError : IniC K a.k_StampError
  C_Row : Cls K a.k_Row
  M_Row : Mk K a.k_Row a.f_Row___init__
  N_Row_add : Meth K a.k_Row "add" a.f_Row_add
  N_Row_first : Meth K a.k_Row "first" a.f_Row_first
  N_Row_growth_paper : Meth K a.k_Row "growth_paper" a.f_Row_growth_paper
  N_Row_mark_at : Meth K a.k_Row "mark_at" a.f_Row_mark_at
  N_Row_size : Meth K a.k_Row "size" a.f_Row_size
  D_entries : FldC K mg ["Row"] "entries"
  D_stamper : FldC K mg ["Row"] "stamper"
  isa : IsaOk K mg isa isaT
  xf : XfOk K mg xfT
section
variable [TabCfg] {P : Program} {w : World} {K : PySem.W.Frag} {mg : Str → Option Value} {base : Heap} {a : Ad}
theorem ok__law_weak (T : Txt K mg a base) : FnOk P w K mg base (L2.CX P w) 1 a.f__law_weak a.d__law_weak ["_law_many_here"] (spM K mg 1 m__law_weak) :=
  maker_ok2 (k := 0) T.L__law_weak sc__law_weak fun A outer s H E hr =>
    (fss_defret (gi := 1) (i := 0) (U := W__law_weak__0) (js := [0]) (tabx T.t__law_weak rfl T.B__law_weak) hn__law_weak__0 rfl (mkr_by mk__law_weak__0 fun _ => rfl) sc__law_weak.nd)
theorem ok_writing (T : Txt K mg a base) : FnOk P w K mg base (L2.CX P w) 1 a.f_writing a.d_writing [] (spM K mg 0 m_writing) :=
  maker_ok2 (k := 0) T.L_writing sc_writing fun A outer s H E hr =>
    (fss_one (fs_retlam (i := 1) (U := W_writing__1) (js := []) (tabx T.t_writing rfl T.B_writing) hn_writing__1 rfl (mkr_by mk_writing__1 fun _ => rfl)))
theorem ok_counting (T : Txt K mg a base) : FnOk P w K mg base (L2.CX P w) 1 a.f_counting a.d_counting [] (spM K mg 0 m_counting) :=
  maker_ok2 (k := 0) T.L_counting sc_counting fun A outer s H E hr =>
    (fss_cons (fs_of (ms_asg (i := 1) sc_counting.nd me_dt))
      (fss_defret (gi := 0) (i := 2) (U := W_counting__2) (js := [1]) (tabx T.t_counting rfl T.B_counting) hn_counting__2 rfl (mkr_by mk_counting__2 fun _ => rfl) sc_counting.nd))
theorem ok__law_sure (T : Txt K mg a base) : FnOk P w K mg base (L2.CX P w) 1 a.f__law_sure a.d__law_sure ["_law_step"] (spM K mg 1 m__law_sure) :=
  maker_ok2 (k := 0) T.L__law_sure sc__law_sure fun A outer s H E hr =>
    (fss_cons (fs_of (ms_asg (i := 2) sc__law_sure.nd me_dt))
      (fss_defret (gi := 1) (i := 3) (U := W__law_sure__3) (js := [2, 0]) (tabx T.t__law_sure rfl T.B__law_sure) hn__law_sure__3 rfl (mkr_by mk__law_sure__3 fun _ => rfl) sc__law_sure.nd))
theorem ok__law_stamper (T : Txt K mg a base) : FnOk P w K mg base (L2.CX P w) 2 a.f__law_stamper a.d__law_stamper ["_law_cell"] (spM K mg 1 m__law_stamper) :=
  fn_ok (k := 1) T.F__law_stamper sc__law_stamper fun cdv A outer s H E hr =>
    (ms_cons (ms_if (mt_cmp (op_eqA hr) o_eq (me_mod (me_var 0) me_int) me_int (nomark _)) (ms_one (ms_ret (me_call0 (ok_writing T) hr T.F_writing.kp T.g_writing T.b_writing))) ms_nil)
      (ms_cons (ms_if (mt_cmp (op_eqA hr) o_eq (me_mod (me_var 0) me_int) me_int (nomark _)) (ms_one (ms_ret (me_call0 (ok_counting T) hr T.F_counting.kp T.g_counting T.b_counting))) ms_nil)
      (ms_cons (ms_if (mt_cmp (op_eqA hr) o_eq (me_mod (me_var 0) me_int) me_int (nomark _)) (ms_one (ms_ret (me_call (ok__law_sure T) hr T.F__law_sure.kp T.g__law_sure T.b__law_sure (takes_of rfl rfl rfl rfl) (ma_cons (me_add me_int (me_mod (me_div (me_var 0) me_int) me_int)) ma_nil) (len_cons len_nil)))) ms_nil)
      (ms_one (ms_ret (me_call (ok__law_weak T) hr T.F__law_weak.kp T.g__law_weak T.b__law_weak (takes_of rfl rfl rfl rfl) (ma_cons (me_add me_int (me_mod (me_div (me_var 0) me_int) me_int)) ma_nil) (len_cons len_nil)))))))
theorem ok__law_count_by (T : Txt K mg a base) : FnOk P w K mg base (L2.CX P w) 1 a.f__law_count_by a.d__law_count_by ["_law_cell"] (spM K mg 1 m__law_count_by) :=
  fn_ok (k := 0) T.F__law_count_by sc__law_count_by fun cdv A outer s H E hr =>
    (ms_cons (ms_if (mt_cmp (op_eqA hr) o_eq (me_mod (me_var 0) me_int) me_int (nomark _)) (ms_one (ms_ret (me_mod (me_div (me_var 0) me_int) me_int))) ms_nil)
      (ms_cons (ms_if (mt_cmp (op_eqA hr) o_eq (me_mod (me_var 0) me_int) me_int (nomark _)) (ms_one (ms_ret (me_sub (me_add (me_shl me_int (me_add me_int (me_mod (me_div (me_var 0) me_int) me_int))) (me_mod (me_div (me_var 0) me_int) me_int)) me_int))) ms_nil)
      (ms_one (ms_ret (me_mod (me_div (me_var 0) me_int) (me_shl me_int me_int))))))
theorem ok__law_half (T : Txt K mg a base) : FnOk P w K mg base (L2.CX P w) 1 a.f__law_half a.d__law_half ["_law_many_here"] (spM K mg 1 m__law_half) :=
  fn_ok (k := 0) T.F__law_half sc__law_half fun cdv A outer s H E hr =>
    (ms_cons (ms_asg (i := 1) sc__law_half.nd me_int)
      (ms_cons (ms_while (passes_of rfl) (mt_cmp op_lt o_lt (me_mulA me_int (me_var 1)) (me_var 0) (nomark _)) (ms_one (ms_asg (i := 1) sc__law_half.nd (me_mulA me_int (me_var 1)))))
      (ms_one (ms_ret (me_var 1)))))
theorem ok__law_many (T : Txt K mg a base) : FnOk P w K mg base (L2.CX P w) 2 a.f__law_many a.d__law_many ["_law_count", "_law_elder"] (spM K mg 2 m__law_many) :=
  fn_ok (k := 1) T.F__law_many sc__law_many fun cdv A outer s H E hr =>
    (ms_cons (ms_asg (i := 2) sc__law_many.nd (me_min2 T.z_min (me_var 0) me_int))
      (ms_cons (ms_while (passes_of rfl) (mt_chain op_lt o_lt op_lt o_lt me_int (me_var 1) (me_var 0)) (ms_cons (ms_asg (i := 3) sc__law_many.nd (me_call (ok__law_half T) hr T.F__law_half.kp T.g__law_half T.b__law_half (takes_of rfl rfl rfl rfl) (ma_cons (me_var 0) ma_nil) (len_cons len_nil)))
      (ms_cons (ms_asg (i := 2) sc__law_many.nd (me_add (me_var 2) me_int))
      (ms_one (ms_if (mt_cmp op_gt o_gt (me_var 1) (me_var 3) (nomark _)) (ms_cons (ms_asg (i := 0) sc__law_many.nd (me_sub (me_var 0) (me_var 3)))
      (ms_one (ms_asg (i := 1) sc__law_many.nd (me_sub (me_var 1) (me_var 3))))) (ms_one (ms_asg (i := 0) sc__law_many.nd (me_var 3))))))))
      (ms_one (ms_ret (me_var 2)))))
theorem nq__law_weak__0 (T : Txt K mg a base) : NQ P w K mg base 1 W__law_weak__0 1 m__law_weak__0 :=
  nq_def (k := 0) (N := ["_law_term", "_law_many_here", "_law_total", "_law_part"]) (ps := ["_law_term"]) rfl sc__law_weak__0 (fun _ _ _ _ _ us hl => match us, hl with | [_], _ => rfl) fun f cl c A outer s H E hr =>
    (ms_cons (ms_asg (i := 2) sc__law_weak__0.nd (me_len T.z_len (me_var 0)))
      (ms_cons (ms_for (passes_of rfl) (mi_seq (me_var 0)) (mg_name (i := 3) sc__law_weak__0.nd) (ms_one (ms_if (mt_tru (me_isi T.z_isinstance (me_var 3) (me_ty (by rfl) T.z_str (by decide +kernel)))) (ms_one (ms_asg (i := 2) sc__law_weak__0.nd (me_add (me_mulA me_int (me_var 2)) (me_len T.z_len (me_var 3))))) (ms_one (ms_asg (i := 2) sc__law_weak__0.nd (me_add (me_mulA me_int (me_var 2)) (me_var 3)))))))
      (ms_one (ms_ret (me_mod (me_var 2) (me_var 1))))))
theorem ok_is_whole (T : Txt K mg a base) : FnOk P w K mg base (L2.CX P w) 1 a.f_is_whole a.d_is_whole ["thing"] (spM K mg 1 m_is_whole) :=
  fn_ok (k := 0) T.F_is_whole sc_is_whole fun cdv A outer s H E hr =>
    (ms_one (ms_ret (me_and (me_isi T.z_isinstance (me_var 0) (me_ty (by rfl) T.z_int (by decide +kernel))) (me_one (me_not (me_isi T.z_isinstance (me_var 0) (me_ty (by rfl) T.z_bool (by decide +kernel))))))))
theorem ok_is_stamp (T : Txt K mg a base) : FnOk P w K mg base (L2.CX P w) 2 a.f_is_stamp a.d_is_stamp ["thing"] (spM K mg 1 m_is_stamp) :=
  fn_ok (k := 1) T.F_is_stamp sc_is_stamp fun cdv A outer s H E hr =>
    (ms_cons (ms_if (mt_tru (me_isi T.z_isinstance (me_var 0) (me_ty (by rfl) T.z_str (by decide +kernel)))) (ms_one (ms_ret me_bl)) ms_nil)
      (ms_one (ms_ret (me_and (me_call (ok_is_whole T) hr T.F_is_whole.kp T.g_is_whole T.b_is_whole (takes_of rfl rfl rfl rfl) (ma_cons (me_var 0) ma_nil) (len_cons len_nil)) (me_one (me_chain op_le o_le op_lt o_lt me_int (me_var 0) (me_pow me_int me_int)))))))
theorem ok_is_term (T : Txt K mg a base) : FnOk P w K mg base (L2.CX P w) 3 a.f_is_term a.d_is_term ["thing"] (spM K mg 1 m_is_term) :=
  fn_ok (k := 2) T.F_is_term sc_is_term fun cdv A outer s H E hr =>
    (ms_cons (ms_if (mw_pt (mw_or (mt_not (mt_tru (me_isi T.z_isinstance (me_var 0) (me_ty (by rfl) T.z_tuple (by decide +kernel))))) (mw_or (mt_cmp op_lt o_lt (me_len T.z_len (me_var 0)) me_int (nomark _)) (mw_or1 (mt_cmp op_gt o_gt (me_len T.z_len (me_var 0)) me_int (nomark _)))))) (ms_one (ms_ret me_bl)) ms_nil)
      (ms_cons (ms_if (mt_not (mt_tru (me_isi T.z_isinstance (me_item hr (me_var 0) me_int) (me_ty (by rfl) T.z_str (by decide +kernel))))) (ms_one (ms_ret me_bl)) ms_nil)
      (ms_cons (ms_for (passes_of rfl) (mi_seq (me_var 0)) (mg_name (i := 1) sc_is_term.nd) (ms_one (ms_if (mt_not (mt_tru (me_call (ok_is_stamp T) hr T.F_is_stamp.kp T.g_is_stamp T.b_is_stamp (takes_of rfl rfl rfl rfl) (ma_cons (me_var 1) ma_nil) (len_cons len_nil)))) (ms_one (ms_ret me_bl)) ms_nil)))
      (ms_one (ms_ret me_bl)))))
theorem ok_part_written (T : Txt K mg a base) : FnOk P w K mg base (L2.CX P w) 1 a.f_part_written a.d_part_written ["part"] (spM K mg 1 m_part_written) :=
  fn_ok (k := 0) T.F_part_written sc_part_written fun cdv A outer s H E hr =>
    (ms_cons (ms_if (mt_tru (me_isi T.z_isinstance (me_var 0) (me_ty (by rfl) T.z_str (by decide +kernel)))) (ms_one (ms_ret (me_add (me_add (me_str1 T.z_str (me_len T.z_len (me_var 0))) me_str) (me_var 0)))) ms_nil)
      (ms_one (ms_ret (me_add (me_str1 T.z_str (me_var 0)) me_str))))
theorem ok_written (T : Txt K mg a base) : FnOk P w K mg base (L2.CX P w) 4 a.f_written a.d_written ["term"] (spM K mg 1 m_written) :=
  fn_ok (k := 3) T.F_written sc_written fun cdv A outer s H E hr =>
    (ms_cons (ms_if (mt_not (mt_tru (me_call (ok_is_term T) hr T.F_is_term.kp T.g_is_term T.b_is_term (takes_of rfl rfl rfl rfl) (ma_cons (me_var 0) ma_nil) (len_cons len_nil)))) (ms_one (ms_raise (takes_of rfl rfl rfl rfl) (mk_none PySem.F.excBase_ValueError T.Q_NoTerm T.G_NoTerm T.K_NoTerm (raises_own T.S_NoTerm T.T_NoTerm)))) ms_nil)
      (ms_one (ms_ret (me_join me_str (me_lc (own := [("part", 1)]) sc_written.nd (mi_seq (me_var 0)) (blkOk_by (own := [("part", 1)]) (by kernel_rfl)) (fun _ _ _ _ _ => (mgc_name (i := 1) sc_written.nd)) (fun _ _ _ _ _ => mts_nil) (fun _ _ _ _ _ => (me_call (ok_part_written T) hr T.F_part_written.kp T.g_part_written T.b_part_written takes0 (ma_cons (me_var 1) ma_nil) (len_cons len_nil))))))))
theorem nq_writing__1 (T : Txt K mg a base) : NQ P w K mg base 5 W_writing__1 1 m_writing__1 :=
  nq_lam (k := 4) (N := ["term"]) (ps := ["term"]) rfl sc_writing__1 (fun _ _ _ _ _ us hl => match us, hl with | [_], _ => rfl) fun f cl c A outer s H E hr =>
    (me_call (ok_written T) hr T.F_written.kp T.g_written T.b_written (takes_of rfl rfl rfl rfl) (ma_cons (me_var 0) ma_nil) (len_cons len_nil))
theorem nq_counting__2 (T : Txt K mg a base) : NQ P w K mg base 4 W_counting__2 1 m_counting__2 :=
  nq_def (k := 3) (N := ["term", "book"]) (ps := ["term"]) rfl sc_counting__2 (fun _ _ _ _ _ us hl => match us, hl with | [_], _ => rfl) fun f cl c A outer s H E hr =>
    (ms_cons (ms_if (mt_not (mt_tru (me_call (ok_is_term T) hr T.F_is_term.kp T.g_is_term T.b_is_term (takes_of rfl rfl rfl rfl) (ma_cons (me_var 0) ma_nil) (len_cons len_nil)))) (ms_one (ms_raise (takes_of rfl rfl rfl rfl) (mk_none PySem.F.excBase_ValueError T.Q_NoTerm T.G_NoTerm T.K_NoTerm (raises_own T.S_NoTerm T.T_NoTerm)))) ms_nil)
      (ms_one (ms_ret (me_setd (unitsOf hr) (me_var 1) (me_var 0) (me_len T.z_len (me_var 1))))))
theorem nq__law_sure__3 (T : Txt K mg a base) : NQ P w K mg base 1 W__law_sure__3 1 m__law_sure__3 :=
  nq_def (k := 0) (N := ["_law_term", "_law_known", "_law_step"]) (ps := ["_law_term"]) rfl sc__law_sure__3 (fun _ _ _ _ _ us hl => match us, hl with | [_], _ => rfl) fun f cl c A outer s H E hr =>
    (ms_one (ms_ret (me_setd (unitsOf hr) (me_var 1) (me_var 0) (me_add (me_mulA (me_var 2) (me_len T.z_len (me_var 1))) me_int))))
theorem rok__law_tops (T : Txt K mg a base) : ∀ n : Nat, FnOk P w K mg base (L2.CX P w) (n + 6) a.f__law_tops a.d__law_tops ["_law_stamper_here", "_law_count", "_law_elder", "_law_marks"] (spM K mg 4 (r__law_tops n))
  | 0 => fn_stuck
  | n + 1 => have RF := rok__law_tops T n; have hi : 6 ≤ n + 6 := Nat.le_add_left _ _; fn_ok (k := n + 6) T.F__law_tops sc__law_tops fun cdv A outer s H E hr =>
    (ms_cons (ms_if (mt_cmp (op_eqA hr) o_eq (me_var 2) (me_var 1) (nomark _)) (ms_one (ms_ret (me_tup (ma_cons (me_item hr (me_var 3) me_int) (ma_cons (me_item hr (me_var 3) me_int) ma_nil))))) ms_nil)
      (ms_cons (ms_asg (i := 4) sc__law_tops.nd (me_call (ok__law_half T) hr T.F__law_half.kp T.g__law_half T.b__law_half (takes_of rfl rfl rfl rfl) (ma_cons (me_var 1) ma_nil) (len_cons len_nil) (hkj := by omega)))
      (ms_cons (ms_if (mt_cmp op_gt o_gt (me_var 2) (me_var 4) (nomark _)) (ms_cons (ms_asgT (me_call RF hr T.F__law_tops.kp T.g__law_tops T.b__law_tops (takes_of rfl rfl rfl rfl) (ma_cons (me_var 0) (ma_cons (me_sub (me_var 1) (me_var 4)) (ma_cons (me_sub (me_var 2) (me_var 4)) (ma_cons (me_slice (me_var 3) (mo_some me_int) mo_none) ma_nil)))) (len_cons (len_cons (len_cons (len_cons len_nil)))) (hkj := by omega)) (mg_tup (mgs_cons (i := 5) (mgs_cons (i := 6) mgs_nil sc__law_tops.nd) sc__law_tops.nd)))
      (ms_one (ms_ret (me_tup (ma_cons (me_callv (i := 0) (tab := tabV) (vok_cons (nq__law_weak__0 T) (vok_cons (nq_writing__1 T) (vok_cons (nq_counting__2 T) (vok_cons (nq__law_sure__3 T) vok_nil (hkj := by omega)) (hkj := by omega)) (hkj := by omega)) (hkj := by omega)) hr (takes_of rfl rfl rfl rfl) (ma_cons (me_tup (ma_cons me_str (ma_cons (me_item hr (me_var 3) me_int) (ma_cons (me_var 5) ma_nil)))) ma_nil) (len_cons len_nil)) (ma_cons (me_callv (i := 0) (tab := tabV) (vok_cons (nq__law_weak__0 T) (vok_cons (nq_writing__1 T) (vok_cons (nq_counting__2 T) (vok_cons (nq__law_sure__3 T) vok_nil (hkj := by omega)) (hkj := by omega)) (hkj := by omega)) (hkj := by omega)) hr (takes_of rfl rfl rfl rfl) (ma_cons (me_tup (ma_cons me_str (ma_cons (me_item hr (me_var 3) me_int) (ma_cons (me_var 6) ma_nil)))) ma_nil) (len_cons len_nil)) ma_nil)))))) ms_nil)
      (ms_cons (ms_asgT (me_call RF hr T.F__law_tops.kp T.g__law_tops T.b__law_tops (takes_of rfl rfl rfl rfl) (ma_cons (me_var 0) (ma_cons (me_var 4) (ma_cons (me_var 2) (ma_cons (me_slice (me_var 3) mo_none (mo_some (me_neg me_int))) ma_nil)))) (len_cons (len_cons (len_cons (len_cons len_nil)))) (hkj := by omega)) (mg_tup (mgs_cons (i := 5) (mgs_cons (i := 6) mgs_nil sc__law_tops.nd) sc__law_tops.nd)))
      (ms_one (ms_ret (me_tup (ma_cons (me_callv (i := 0) (tab := tabV) (vok_cons (nq__law_weak__0 T) (vok_cons (nq_writing__1 T) (vok_cons (nq_counting__2 T) (vok_cons (nq__law_sure__3 T) vok_nil (hkj := by omega)) (hkj := by omega)) (hkj := by omega)) (hkj := by omega)) hr (takes_of rfl rfl rfl rfl) (ma_cons (me_tup (ma_cons me_str (ma_cons (me_var 5) (ma_cons (me_item hr (me_var 3) (me_neg me_int)) ma_nil)))) ma_nil) (len_cons len_nil)) (ma_cons (me_var 6) ma_nil)))))))))
theorem ok__law_tops (T : Txt K mg a base) : FnOk P w K mg base (L2.CX P w) 76 a.f__law_tops a.d__law_tops ["_law_stamper_here", "_law_count", "_law_elder", "_law_marks"] (spM K mg 4 m__law_tops) := rok__law_tops T 70
theorem ok__law_rows_of (T : Txt K mg a base) : FnOk P w K mg base (L2.CX P w) 77 a.f__law_rows_of a.d__law_rows_of ["_law_stamper_here", "_law_count", "_law_elder", "_law_marks"] (spM K mg 4 m__law_rows_of) :=
  fn_ok (k := 76) T.F__law_rows_of sc__law_rows_of fun cdv A outer s H E hr =>
    (ms_cons (ms_asg (i := 4) sc__law_rows_of.nd (me_callv (i := 0) (tab := tabV) (vok_cons (nq__law_weak__0 T) (vok_cons (nq_writing__1 T) (vok_cons (nq_counting__2 T) (vok_cons (nq__law_sure__3 T) vok_nil)))) hr (takes_of rfl rfl rfl rfl) (ma_cons (me_tup (ma_cons me_str ma_nil)) ma_nil) (len_cons len_nil)))
      (ms_cons (ms_asg (i := 5) sc__law_rows_of.nd (me_tup (ma_cons (me_var 4) (ma_cons (me_var 4) ma_nil))))
      (ms_cons (ms_if (mt_cmp op_gt o_gt (me_var 2) me_int (nomark _)) (ms_one (ms_asg (i := 5) sc__law_rows_of.nd (me_call (ok__law_tops T) hr T.F__law_tops.kp T.g__law_tops T.b__law_tops (takes_of rfl rfl rfl rfl) (ma_cons (me_var 0) (ma_cons (me_var 1) (ma_cons (me_var 2) (ma_cons (me_var 3) ma_nil)))) (len_cons (len_cons (len_cons (len_cons len_nil))))))) (ms_one (ms_if (mt_cmp op_gt o_gt (me_var 1) me_int (nomark _)) (ms_one (ms_asg (i := 5) sc__law_rows_of.nd (me_tup (ma_cons (me_item hr (me_var 3) me_int) (ma_cons (me_var 4) ma_nil))))) ms_nil)))
      (ms_one (ms_ret (me_tup (ma_cons (me_callv (i := 0) (tab := tabV) (vok_cons (nq__law_weak__0 T) (vok_cons (nq_writing__1 T) (vok_cons (nq_counting__2 T) (vok_cons (nq__law_sure__3 T) vok_nil)))) hr (takes_of rfl rfl rfl rfl) (ma_cons (me_tup (ma_cons me_str (ma_cons (me_var 1) (ma_cons (me_item hr (me_var 5) me_int) ma_nil)))) ma_nil) (len_cons len_nil)) (ma_cons (me_callv (i := 0) (tab := tabV) (vok_cons (nq__law_weak__0 T) (vok_cons (nq_writing__1 T) (vok_cons (nq_counting__2 T) (vok_cons (nq__law_sure__3 T) vok_nil)))) hr (takes_of rfl rfl rfl rfl) (ma_cons (me_tup (ma_cons me_str (ma_cons (me_var 2) (ma_cons (me_item hr (me_var 5) me_int) ma_nil)))) ma_nil) (len_cons len_nil)) ma_nil))))))))
theorem ok_is_marks (T : Txt K mg a base) : FnOk P w K mg base (L2.CX P w) 3 a.f_is_marks a.d_is_marks ["thing", "many"] (spM K mg 2 m_is_marks) :=
  fn_ok (k := 2) T.F_is_marks sc_is_marks fun cdv A outer s H E hr =>
    (ms_cons (ms_if (mw_pt (mw_or (mt_not (mt_tru (me_isi T.z_isinstance (me_var 0) (me_ty (by rfl) T.z_tuple (by decide +kernel))))) (mw_or1 (mt_cmp (op_neA hr) o_ne (me_len T.z_len (me_var 0)) (me_var 1) (nomark _))))) (ms_one (ms_ret me_bl)) ms_nil)
      (ms_cons (ms_for (passes_of rfl) (mi_seq (me_var 0)) (mg_name (i := 2) sc_is_marks.nd) (ms_one (ms_if (mt_not (mt_tru (me_call (ok_is_stamp T) hr T.F_is_stamp.kp T.g_is_stamp T.b_is_stamp (takes_of rfl rfl rfl rfl) (ma_cons (me_var 2) ma_nil) (len_cons len_nil)))) (ms_one (ms_ret me_bl)) ms_nil)))
      (ms_one (ms_ret me_bl))))
theorem ok_half (T : Txt K mg a base) : FnOk P w K mg base (L2.CX P w) 1 a.f_half a.d_half ["many"] (spM K mg 1 m_half) :=
  fn_ok (k := 0) T.F_half sc_half fun cdv A outer s H E hr =>
    (ms_one (ms_ret (me_shl me_int (me_sub (me_bits (me_sub (me_var 0) me_int)) me_int))))
theorem rok_joined (T : Txt K mg a base) : ∀ n : Nat, FnOk P w K mg base (L2.CX P w) (n + 6) a.f_joined a.d_joined ["stamper", "count", "elder", "marks"] (spM K mg 4 (r_joined n))
  | 0 => fn_stuck
  | n + 1 => have RF := rok_joined T n; have hi : 6 ≤ n + 6 := Nat.le_add_left _ _; fn_ok (k := n + 6) T.F_joined sc_joined fun cdv A outer s H E hr =>
    (ms_cons (ms_if (mt_cmp (op_eqA hr) o_eq (me_var 2) (me_var 1) (nomark _)) (ms_one (ms_ret (me_tup (ma_cons (me_tup (ma_cons (me_lst ma_nil) (ma_cons (me_item hr (me_var 3) me_int) ma_nil))) (ma_cons (me_tup (ma_cons (me_lst ma_nil) (ma_cons (me_item hr (me_var 3) me_int) ma_nil))) ma_nil))))) ms_nil)
      (ms_cons (ms_asg (i := 4) sc_joined.nd (me_call (ok_half T) hr T.F_half.kp T.g_half T.b_half (takes_of rfl rfl rfl rfl) (ma_cons (me_var 1) ma_nil) (len_cons len_nil) (hkj := by omega)))
      (ms_cons (ms_if (mt_cmp op_le o_le (me_var 2) (me_var 4) (nomark _)) (ms_cons (ms_asgT (me_call RF hr T.F_joined.kp T.g_joined T.b_joined (takes_of rfl rfl rfl rfl) (ma_cons (me_var 0) (ma_cons (me_var 4) (ma_cons (me_var 2) (ma_cons (me_slice (me_var 3) mo_none (mo_some (me_neg me_int))) ma_nil)))) (len_cons (len_cons (len_cons (len_cons len_nil)))) (hkj := by omega)) (mg_tup (mgs_cons (i := 7) (mgs_cons (i := 8) mgs_nil sc_joined.nd) sc_joined.nd)))
      (ms_cons (ms_asg (i := 5) sc_joined.nd (me_tup (ma_cons me_str (ma_cons (me_item hr (me_var 7) me_int) (ma_cons (me_item hr (me_var 3) (me_neg me_int)) ma_nil)))))
      (ms_one (ms_ret (me_tup (ma_cons (me_tup (ma_cons (me_add (me_item hr (me_var 7) me_int) (me_lst (ma_cons (me_var 5) ma_nil))) (ma_cons (me_callv (i := 0) (tab := tabV) (vok_cons (nq__law_weak__0 T) (vok_cons (nq_writing__1 T) (vok_cons (nq_counting__2 T) (vok_cons (nq__law_sure__3 T) vok_nil (hkj := by omega)) (hkj := by omega)) (hkj := by omega)) (hkj := by omega)) hr (takes_of rfl rfl rfl rfl) (ma_cons (me_var 5) ma_nil) (len_cons len_nil)) ma_nil))) (ma_cons (me_var 8) ma_nil))))))) ms_nil)
      (ms_cons (ms_asgT (me_call RF hr T.F_joined.kp T.g_joined T.b_joined (takes_of rfl rfl rfl rfl) (ma_cons (me_var 0) (ma_cons (me_sub (me_var 1) (me_var 4)) (ma_cons (me_sub (me_var 2) (me_var 4)) (ma_cons (me_slice (me_var 3) (mo_some me_int) mo_none) ma_nil)))) (len_cons (len_cons (len_cons (len_cons len_nil)))) (hkj := by omega)) (mg_tup (mgs_cons (i := 7) (mgs_cons (i := 8) mgs_nil sc_joined.nd) sc_joined.nd)))
      (ms_cons (ms_asg (i := 5) sc_joined.nd (me_tup (ma_cons me_str (ma_cons (me_item hr (me_var 3) me_int) (ma_cons (me_item hr (me_var 7) me_int) ma_nil)))))
      (ms_cons (ms_asg (i := 6) sc_joined.nd (me_tup (ma_cons me_str (ma_cons (me_item hr (me_var 3) me_int) (ma_cons (me_item hr (me_var 8) me_int) ma_nil)))))
      (ms_one (ms_ret (me_tup (ma_cons (me_tup (ma_cons (me_add (me_item hr (me_var 7) me_int) (me_lst (ma_cons (me_var 5) ma_nil))) (ma_cons (me_callv (i := 0) (tab := tabV) (vok_cons (nq__law_weak__0 T) (vok_cons (nq_writing__1 T) (vok_cons (nq_counting__2 T) (vok_cons (nq__law_sure__3 T) vok_nil (hkj := by omega)) (hkj := by omega)) (hkj := by omega)) (hkj := by omega)) hr (takes_of rfl rfl rfl rfl) (ma_cons (me_var 5) ma_nil) (len_cons len_nil)) ma_nil))) (ma_cons (me_tup (ma_cons (me_add (me_item hr (me_var 8) me_int) (me_lst (ma_cons (me_var 6) ma_nil))) (ma_cons (me_callv (i := 0) (tab := tabV) (vok_cons (nq__law_weak__0 T) (vok_cons (nq_writing__1 T) (vok_cons (nq_counting__2 T) (vok_cons (nq__law_sure__3 T) vok_nil (hkj := by omega)) (hkj := by omega)) (hkj := by omega)) (hkj := by omega)) hr (takes_of rfl rfl rfl rfl) (ma_cons (me_var 6) ma_nil) (len_cons len_nil)) ma_nil))) ma_nil)))))))))))
theorem ok_joined (T : Txt K mg a base) : FnOk P w K mg base (L2.CX P w) 76 a.f_joined a.d_joined ["stamper", "count", "elder", "marks"] (spM K mg 4 m_joined) := rok_joined T 70
theorem ok_is_below (T : Txt K mg a base) : FnOk P w K mg base (L2.CX P w) 2 a.f_is_below a.d_is_below ["thing", "many"] (spM K mg 2 m_is_below) :=
  fn_ok (k := 1) T.F_is_below sc_is_below fun cdv A outer s H E hr =>
    (ms_one (ms_ret (me_and (me_call (ok_is_whole T) hr T.F_is_whole.kp T.g_is_whole T.b_is_whole (takes_of rfl rfl rfl rfl) (ma_cons (me_var 0) ma_nil) (len_cons len_nil)) (me_one (me_chain op_le o_le op_lt o_lt me_int (me_var 0) (me_var 1))))))
theorem ok_how_many (T : Txt K mg a base) : FnOk P w K mg base (L2.CX P w) 2 a.f_how_many a.d_how_many ["count", "elder"] (spM K mg 2 m_how_many) :=
  fn_ok (k := 1) T.F_how_many sc_how_many fun cdv A outer s H E hr =>
    (ms_cons (ms_if (mt_cmp (op_eqA hr) o_eq (me_var 0) me_int (nomark _)) (ms_one (ms_ret me_int)) ms_nil)
      (ms_cons (ms_asg (i := 2) sc_how_many.nd me_int)
      (ms_cons (ms_while (passes_of rfl) (mw_pt (mw_and (mt_cmp (op_neA hr) o_ne (me_var 1) me_int (nomark _)) (mw_and1 (mt_cmp (op_neA hr) o_ne (me_var 1) (me_var 0) (nomark _))))) (ms_cons (ms_asg (i := 3) sc_how_many.nd (me_call (ok_half T) hr T.F_half.kp T.g_half T.b_half (takes_of rfl rfl rfl rfl) (ma_cons (me_var 0) ma_nil) (len_cons len_nil)))
      (ms_cons (ms_if (mt_cmp op_le o_le (me_var 1) (me_var 3) (nomark _)) (ms_one (ms_asg (i := 0) sc_how_many.nd (me_var 3))) (ms_cons (ms_augSub (i := 1) (me_var 3) sc_how_many.nd)
      (ms_one (ms_augSub (i := 0) (me_var 3) sc_how_many.nd))))
      (ms_one (ms_augAdd (i := 2) me_int sc_how_many.nd)))))
      (ms_one (ms_ret (me_var 2))))))
theorem ok_growth_terms (T : Txt K mg a base) : FnOk P w K mg base (L2.CX P w) 77 a.f_growth_terms a.d_growth_terms ["stamper", "count", "elder", "marks"] (spM K mg 4 m_growth_terms) :=
  fn_ok (k := 76) T.F_growth_terms sc_growth_terms fun cdv A outer s H E hr =>
    (ms_cons (ms_if (mw_pt (mw_or (mt_not (mt_tru (me_call (ok_is_below T) hr T.F_is_below.kp T.g_is_below T.b_is_below (takes_of rfl rfl rfl rfl) (ma_cons (me_var 1) (ma_cons (me_shl me_int me_int) ma_nil)) (len_cons (len_cons len_nil))))) (mw_or1 (mt_not (mt_tru (me_call (ok_is_below T) hr T.F_is_below.kp T.g_is_below T.b_is_below (takes_of rfl rfl rfl rfl) (ma_cons (me_var 2) (ma_cons (me_add (me_var 1) me_int) ma_nil)) (len_cons (len_cons len_nil)))))))) (ms_one (ms_raise (takes_of rfl rfl rfl rfl) (mk_none PySem.F.excBase_ValueError T.Q_NoPlace T.G_NoPlace T.K_NoPlace (raises_own T.S_NoPlace T.T_NoPlace)))) ms_nil)
      (ms_cons (ms_if (mt_not (mt_tru (me_call (ok_is_marks T) hr T.F_is_marks.kp T.g_is_marks T.b_is_marks (takes_of rfl rfl rfl rfl) (ma_cons (me_var 3) (ma_cons (me_call (ok_how_many T) hr T.F_how_many.kp T.g_how_many T.b_how_many (takes_of rfl rfl rfl rfl) (ma_cons (me_var 1) (ma_cons (me_var 2) ma_nil)) (len_cons (len_cons len_nil))) ma_nil)) (len_cons (len_cons len_nil))))) (ms_one (ms_raise (takes_of rfl rfl rfl rfl) (mk_none PySem.F.excBase_ValueError T.Q_NoPaper T.G_NoPaper T.K_NoPaper (raises_own T.S_NoPaper T.T_NoPaper)))) ms_nil)
      (ms_cons (ms_if (mt_cmp op_gt o_gt (me_var 2) me_int (nomark _)) (ms_cons (ms_asgT (me_call (ok_joined T) hr T.F_joined.kp T.g_joined T.b_joined (takes_of rfl rfl rfl rfl) (ma_cons (me_var 0) (ma_cons (me_var 1) (ma_cons (me_var 2) (ma_cons (me_var 3) ma_nil)))) (len_cons (len_cons (len_cons (len_cons len_nil))))) (mg_tup (mgs_cons (i := 5) (mgs_cons (i := 6) mgs_nil sc_growth_terms.nd) sc_growth_terms.nd)))
      (ms_one (ms_ret (me_tup (ma_cons (me_add (me_item hr (me_var 5) me_int) (me_lst (ma_cons (me_tup (ma_cons me_str (ma_cons (me_var 1) (ma_cons (me_item hr (me_var 5) me_int) ma_nil)))) ma_nil))) (ma_cons (me_add (me_item hr (me_var 6) me_int) (me_lst (ma_cons (me_tup (ma_cons me_str (ma_cons (me_var 2) (ma_cons (me_item hr (me_var 6) me_int) ma_nil)))) ma_nil))) ma_nil)))))) ms_nil)
      (ms_cons (ms_asg (i := 4) sc_growth_terms.nd (me_lst (ma_cons (me_tup (ma_cons me_str ma_nil)) (ma_cons (me_tup (ma_cons me_str (ma_cons me_int (ma_cons (me_callv (i := 0) (tab := tabV) (vok_cons (nq__law_weak__0 T) (vok_cons (nq_writing__1 T) (vok_cons (nq_counting__2 T) (vok_cons (nq__law_sure__3 T) vok_nil)))) hr (takes_of rfl rfl rfl rfl) (ma_cons (me_tup (ma_cons me_str ma_nil)) ma_nil) (len_cons len_nil)) ma_nil)))) ma_nil))))
      (ms_cons (ms_if (mt_cmp (op_eqA hr) o_eq (me_var 1) me_int (nomark _)) (ms_one (ms_ret (me_tup (ma_cons (me_list1 T.z_list (me_var 4)) (ma_cons (me_var 4) ma_nil))))) ms_nil)
      (ms_one (ms_ret (me_tup (ma_cons (me_lst (ma_cons (me_tup (ma_cons me_str (ma_cons (me_var 1) (ma_cons (me_item hr (me_var 3) me_int) ma_nil)))) ma_nil)) (ma_cons (me_var 4) ma_nil))))))))))
theorem ok__law_cell_at (T : Txt K mg a base) : FnOk P w K mg base (L2.CX P w) 1 a.f__law_cell_at a.d__law_cell_at ["_law_script", "_law_k"] (spM K mg 2 m__law_cell_at) :=
  fn_ok (k := 0) T.F__law_cell_at sc__law_cell_at fun cdv A outer s H E hr =>
    (ms_cons (ms_if (mt_cmp op_lt o_lt (me_var 1) (me_len T.z_len (me_var 0)) (nomark _)) (ms_one (ms_ret (me_item hr (me_var 0) (me_var 1)))) ms_nil)
      (ms_one (ms_ret me_int)))
theorem ok__law_first (T : Txt K mg a base) : FnOk P w K mg base (L2.CX P w) 1 a.f__law_first a.d__law_first ["_law_flags"] (spM K mg 1 m__law_first) :=
  fn_ok (k := 0) T.F__law_first sc__law_first fun cdv A outer s H E hr =>
    (ms_cons (ms_for (passes_of rfl) (mi_range1 T.z_range (me_len T.z_len (me_var 0))) (mg_name (i := 1) sc__law_first.nd) (ms_one (ms_if (mt_tru (me_item hr (me_var 0) (me_var 1))) (ms_one (ms_ret (me_var 1))) ms_nil)))
      (ms_one (ms_ret (me_neg me_int))))
theorem ok__law_is (T : Txt K mg a base) : FnOk P w K mg base (L2.CX P w) 1 a.f__law_is a.d__law_is ["_law_caught_here", "_law_number"] (spM K mg 2 m__law_is) :=
  fn_ok (k := 0) T.F__law_is sc__law_is fun cdv A outer s H E hr =>
    (ms_cons (ms_if (mt_cmp op_lt o_lt (me_var 1) me_int (nomark _)) (ms_one (ms_ret (me_cmp op_isA o_is (me_var 0) me_non (nomark _)))) ms_nil)
      (ms_cons (ms_asg (i := 2) sc__law_is.nd (me_lst (ma_cons (me_isy T.isa T.z_isinstance (me_var 0) (me_gl (by rfl) T.G_NoHead)) (ma_cons (me_isy T.isa T.z_isinstance (me_var 0) (me_gl (by rfl) T.G_NoPlace)) (ma_cons (me_isy T.isa T.z_isinstance (me_var 0) (me_gl (by rfl) T.G_NoPaper)) ma_nil)))))
      (ms_cons (ms_asg (i := 2) sc__law_is.nd (me_add (me_var 2) (me_lst (ma_cons (me_isy T.isa T.z_isinstance (me_var 0) (me_gl (by rfl) T.G_Broken)) (ma_cons (me_isy T.isa T.z_isinstance (me_var 0) (me_gl (by rfl) T.G_NoStamp)) (ma_cons (me_isy T.isa T.z_isinstance (me_var 0) (me_ty (by rfl) T.z_ValueError (by decide +kernel))) ma_nil))))))
      (ms_one (ms_ret (me_cmp (op_eqA hr) o_eq (me_var 2) (me_lc (own := [("_law_k", 3)]) sc__law_is.nd (mi_range1 T.z_range me_int) (blkOk_by (own := [("_law_k", 3)]) (by kernel_rfl)) (fun _ _ _ _ _ => (mgc_name (i := 3) sc__law_is.nd)) (fun _ _ _ _ _ => mts_nil) (fun _ _ _ _ _ => (me_or (me_cmp (op_eqA hr) o_eq (me_var 3) (me_var 1) (nomark _)) (me_one (me_cmp (op_eqA hr) o_eq (me_var 3) me_int (nomark _)))))) (nomark _)))))))
theorem ok__law_no_count (T : Txt K mg a base) : FnOk P w K mg base (L2.CX P w) 1 a.f__law_no_count a.d__law_no_count ["_law_cell", "_law_count"] (spM K mg 2 m__law_no_count) :=
  fn_ok (k := 0) T.F__law_no_count sc__law_no_count fun cdv A outer s H E hr =>
    (ms_cons (ms_asg (i := 2) sc__law_no_count.nd (me_lst (ma_cons me_non (ma_cons me_bl (ma_cons me_bl (ma_cons (me_str1 T.z_str (me_var 1)) (ma_cons (me_sub (me_neg me_int) (me_var 1)) (ma_cons (me_shl me_int me_int) (ma_cons (me_add (me_shl me_int me_int) (me_var 1)) (ma_cons (me_tup (ma_cons (me_var 1) ma_nil)) (ma_cons (me_lst (ma_cons (me_var 1) ma_nil)) ma_nil)))))))))))
      (ms_one (ms_ret (me_item hr (me_var 2) (me_mod (me_var 0) me_int)))))
theorem ok__law_no_elder (T : Txt K mg a base) : FnOk P w K mg base (L2.CX P w) 1 a.f__law_no_elder a.d__law_no_elder ["_law_cell", "_law_count"] (spM K mg 2 m__law_no_elder) :=
  fn_ok (k := 0) T.F__law_no_elder sc__law_no_elder fun cdv A outer s H E hr =>
    (ms_cons (ms_asg (i := 2) sc__law_no_elder.nd (me_mod (me_div (me_var 0) me_int) (me_pow me_int me_int)))
      (ms_cons (ms_asg (i := 3) sc__law_no_elder.nd (me_lst (ma_cons me_non (ma_cons me_bl (ma_cons me_bl (ma_cons (me_str1 T.z_str (me_mod (me_var 2) (me_add (me_var 1) me_int))) (ma_cons (me_sub (me_neg me_int) (me_var 2)) (ma_cons (me_add (me_var 1) me_int) (ma_cons (me_add (me_add (me_var 1) me_int) (me_var 2)) (ma_cons (me_tup (ma_cons (me_var 1) ma_nil)) (ma_cons (me_lst (ma_cons me_int ma_nil)) ma_nil)))))))))))
      (ms_one (ms_ret (me_item hr (me_var 3) (me_mod (me_var 0) me_int))))))
theorem ok__law_no_stamp (T : Txt K mg a base) : FnOk P w K mg base (L2.CX P w) 1 a.f__law_no_stamp a.d__law_no_stamp ["_law_cell"] (spM K mg 1 m__law_no_stamp) :=
  fn_ok (k := 0) T.F__law_no_stamp sc__law_no_stamp fun cdv A outer s H E hr =>
    (ms_cons (ms_asg (i := 1) sc__law_no_stamp.nd (me_mod (me_div (me_var 0) me_int) (me_pow me_int me_int)))
      (ms_cons (ms_asg (i := 2) sc__law_no_stamp.nd (me_lst (ma_cons me_non (ma_cons me_bl (ma_cons me_bl (ma_cons (me_sub (me_neg me_int) (me_var 1)) (ma_cons (me_add (me_pow me_int me_int) (me_var 1)) (ma_cons (me_tup (ma_cons (me_var 1) ma_nil)) (ma_cons (me_lst (ma_cons (me_var 1) ma_nil)) (ma_cons me_dk (ma_cons (me_tup (ma_cons me_str ma_nil)) ma_nil)))))))))))
      (ms_one (ms_ret (me_item hr (me_var 2) (me_mod (me_var 0) me_int))))))
theorem ok__law_no_paper (T : Txt K mg a base) : FnOk P w K mg base (L2.CX P w) 2 a.f__law_no_paper a.d__law_no_paper ["_law_cell", "_law_marks"] (spM K mg 2 m__law_no_paper) :=
  fn_ok (k := 1) T.F__law_no_paper sc__law_no_paper fun cdv A outer s H E hr =>
    (ms_cons (ms_asg (i := 2) sc__law_no_paper.nd (me_mod (me_div (me_var 0) me_int) (me_max2 T.z_max me_int (me_len T.z_len (me_var 1)))))
      (ms_cons (ms_asg (i := 3) sc__law_no_paper.nd (me_call (ok__law_no_stamp T) hr T.F__law_no_stamp.kp T.g__law_no_stamp T.b__law_no_stamp (takes_of rfl rfl rfl rfl) (ma_cons (me_div (me_var 0) me_int) ma_nil) (len_cons len_nil)))
      (ms_cons (ms_asg (i := 4) sc__law_no_paper.nd (me_lst (ma_cons me_non (ma_cons (me_list1 T.z_list (me_var 1)) (ma_cons (me_add (me_var 1) (me_tup (ma_cons me_str ma_nil))) (ma_cons (me_add (me_var 1) (me_tup (ma_cons (me_var 3) ma_nil))) ma_nil))))))
      (ms_cons (ms_if (mw_pt (mw_or (mt_cmp op_lt o_lt (me_mod (me_var 0) me_int) me_int (nomark _)) (mw_or1 (mt_cmp (op_eqA hr) o_eq (me_len T.z_len (me_var 1)) me_int (nomark _))))) (ms_one (ms_ret (me_item hr (me_var 4) (me_mod (me_mod (me_var 0) me_int) me_int)))) ms_nil)
      (ms_cons (ms_if (mt_cmp (op_eqA hr) o_eq (me_mod (me_div (me_div (me_var 0) me_int) me_int) me_int) me_int (nomark _)) (ms_one (ms_ret (me_add (me_slice (me_var 1) mo_none (mo_some (me_var 2))) (me_slice (me_var 1) (mo_some (me_add (me_var 2) me_int)) mo_none)))) ms_nil)
      (ms_one (ms_ret (me_add (me_add (me_slice (me_var 1) mo_none (mo_some (me_var 2))) (me_tup (ma_cons (me_var 3) ma_nil))) (me_slice (me_var 1) (mo_some (me_add (me_var 2) me_int)) mo_none)))))))))
theorem ok__law_no_head (T : Txt K mg a base) : FnOk P w K mg base (L2.CX P w) 2 a.f__law_no_head a.d__law_no_head ["_law_cell", "_law_count", "_law_mark"] (spM K mg 3 m__law_no_head) :=
  fn_ok (k := 1) T.F__law_no_head sc__law_no_head fun cdv A outer s H E hr =>
    (ms_cons (ms_asg (i := 3) sc__law_no_head.nd (me_lst (ma_cons me_non (ma_cons (me_tup (ma_cons (me_var 1) ma_nil)) (ma_cons (me_tup (ma_cons (me_var 1) (ma_cons (me_var 2) (ma_cons (me_var 2) ma_nil)))) (ma_cons (me_lst (ma_cons (me_var 1) (ma_cons (me_var 2) ma_nil))) (ma_cons (me_tup (ma_cons me_bl (ma_cons (me_var 2) ma_nil))) (ma_cons (me_tup (ma_cons (me_sub (me_neg me_int) (me_var 1)) (ma_cons (me_var 2) ma_nil))) (ma_cons (me_tup (ma_cons (me_shl me_int me_int) (ma_cons (me_var 2) ma_nil))) ma_nil)))))))))
      (ms_cons (ms_asg (i := 3) sc__law_no_head.nd (me_add (me_var 3) (me_lst (ma_cons (me_tup (ma_cons (me_str1 T.z_str (me_var 1)) (ma_cons (me_var 2) ma_nil))) (ma_cons (me_tup (ma_cons (me_var 1) (ma_cons (me_call (ok__law_no_stamp T) hr T.F__law_no_stamp.kp T.g__law_no_stamp T.b__law_no_stamp (takes_of rfl rfl rfl rfl) (ma_cons (me_div (me_var 0) me_int) ma_nil) (len_cons len_nil)) ma_nil))) (ma_cons (me_var 2) (ma_cons me_dk ma_nil)))))))
      (ms_one (ms_ret (me_item hr (me_var 3) (me_mod (me_var 0) me_int))))))
theorem ok_Broken___init__ (T : Txt K mg a base) : FnOk P w K mg base (L2.CX P w) 1 a.f_Broken___init__ a.d_Broken___init__ ["self", "due", "came"] (spXI K "due" "came") :=
  fn_exi (k := 0) (m := "broken") T.F_Broken___init__ sc_Broken___init__ fun cdv A outer s H E =>
    pss_cons (ps_expr (pe_oinit rfl T.G_StampError T.J_StampError (pa_cons (pe_var (i := 0) rfl (.inl rfl)) (pa_cons pe_str pa_nil)))) (pss_cons (ps_ost (pe_var (i := 0) rfl (.inl rfl)) (pe_var (i := 1) rfl (.inl rfl))) (pss_one (ps_ost (pe_var (i := 0) rfl (.inl rfl)) (pe_var (i := 2) rfl (.inl rfl)))))
theorem ok_is_head (T : Txt K mg a base) : FnOk P w K mg base (L2.CX P w) 3 a.f_is_head a.d_is_head ["thing"] (spM K mg 1 m_is_head) :=
  fn_ok (k := 2) T.F_is_head sc_is_head fun cdv A outer s H E hr =>
    (ms_cons (ms_if (mw_pt (mw_or (mt_not (mt_tru (me_isi T.z_isinstance (me_var 0) (me_ty (by rfl) T.z_tuple (by decide +kernel))))) (mw_or1 (mt_cmp (op_neA hr) o_ne (me_len T.z_len (me_var 0)) me_int (nomark _))))) (ms_one (ms_ret me_bl)) ms_nil)
      (ms_one (ms_ret (me_and (me_call (ok_is_below T) hr T.F_is_below.kp T.g_is_below T.b_is_below (takes_of rfl rfl rfl rfl) (ma_cons (me_item hr (me_var 0) me_int) (ma_cons (me_shl me_int me_int) ma_nil)) (len_cons (len_cons len_nil))) (me_one (me_call (ok_is_stamp T) hr T.F_is_stamp.kp T.g_is_stamp T.b_is_stamp (takes_of rfl rfl rfl rfl) (ma_cons (me_item hr (me_var 0) me_int) ma_nil) (len_cons len_nil)))))))
theorem ok_growth_answer (T : Txt K mg a base) : FnOk P w K mg base (L2.CX P w) 78 a.f_growth_answer a.d_growth_answer ["stamper", "head", "elder", "marks"] (spM K mg 4 m_growth_answer) :=
  fn_ok (k := 77) T.F_growth_answer sc_growth_answer fun cdv A outer s H E hr =>
    (ms_cons (ms_if (mt_not (mt_tru (me_call (ok_is_head T) hr T.F_is_head.kp T.g_is_head T.b_is_head (takes_of rfl rfl rfl rfl) (ma_cons (me_var 1) ma_nil) (len_cons len_nil)))) (ms_one (ms_raise (takes_of rfl rfl rfl rfl) (mk_none PySem.F.excBase_ValueError T.Q_NoHead T.G_NoHead T.K_NoHead (raises_own T.S_NoHead T.T_NoHead)))) ms_nil)
      (ms_cons (ms_asgT (me_call (ok_growth_terms T) hr T.F_growth_terms.kp T.g_growth_terms T.b_growth_terms (takes_of rfl rfl rfl rfl) (ma_cons (me_var 0) (ma_cons (me_item hr (me_var 1) me_int) (ma_cons (me_var 2) (ma_cons (me_var 3) ma_nil)))) (len_cons (len_cons (len_cons (len_cons len_nil))))) (mg_tup (mgs_cons (i := 5) (mgs_cons (i := 6) mgs_nil sc_growth_answer.nd) sc_growth_answer.nd)))
      (ms_cons (ms_asg (i := 4) sc_growth_answer.nd (me_callv (i := 0) (tab := tabV) (vok_cons (nq__law_weak__0 T) (vok_cons (nq_writing__1 T) (vok_cons (nq_counting__2 T) (vok_cons (nq__law_sure__3 T) vok_nil)))) hr (takes_of rfl rfl rfl rfl) (ma_cons (me_item hr (me_var 5) (me_neg me_int)) ma_nil) (len_cons len_nil)))
      (ms_cons (ms_if (mt_cmp (op_neA hr) o_ne (me_var 4) (me_item hr (me_var 1) me_int) (nomark _)) (ms_one (ms_raise (takes_of rfl rfl rfl rfl) (mk_flds T.X_Broken T.x1_Broken T.x2_Broken T.I_Broken T.i_Broken (ok_Broken___init__ T) hr T.b_Broken___init__ T.G_Broken (ma_cons (me_item hr (me_var 1) me_int) (ma_cons (me_var 4) ma_nil))))) ms_nil)
      (ms_one (ms_ret (me_callv (i := 0) (tab := tabV) (vok_cons (nq__law_weak__0 T) (vok_cons (nq_writing__1 T) (vok_cons (nq_counting__2 T) (vok_cons (nq__law_sure__3 T) vok_nil)))) hr (takes_of rfl rfl rfl rfl) (ma_cons (me_item hr (me_var 6) (me_neg me_int)) ma_nil) (len_cons len_nil))))))))
theorem ok__law_caught (T : Txt K mg a base) : FnOk P w K mg base (L2.CX P w) 79 a.f__law_caught a.d__law_caught ["_law_what", "_law_stamper_here", "_law_top", "_law_elder", "_law_marks"] (spM K mg 5 m__law_caught) :=
  fn_ok (k := 78) T.F__law_caught sc__law_caught fun cdv A outer s H E hr =>
    (ms_cons (ms_asg (i := 5) sc__law_caught.nd me_non)
      (ms_cons (ms_try (isa := isa) sc__law_caught.nd (takes_of rfl rfl rfl rfl) (fun _ _ _ tk1 po1 => (ms_one (ms_if (mt_cmp (op_eqA hr) o_eq (me_var 0) me_int (nomark _)) (ms_one (ms_expr (me_call (ok_growth_terms T) hr T.F_growth_terms.kp T.g_growth_terms T.b_growth_terms tk1 (ma_cons (me_var 1) (ma_cons (me_var 2) (ma_cons (me_var 3) (ma_cons (me_var 4) ma_nil)))) (len_cons (len_cons (len_cons (len_cons len_nil))))))) (ms_one (ms_expr (me_call (ok_growth_answer T) hr T.F_growth_answer.kp T.g_growth_answer T.b_growth_answer tk1 (ma_cons (me_var 1) (ma_cons (me_var 2) (ma_cons (me_var 3) (ma_cons (me_var 4) ma_nil)))) (len_cons (len_cons (len_cons (len_cons len_nil)))))))))) ms_nil (hde_named (i := 6) T.isa T.G_StampError (fun _ _ => (ms_one (ms_asg (i := 5) sc__law_caught.nd (me_var 6)))) hde_nil))
      (ms_one (ms_ret (me_var 5)))))
theorem ok__law_text_by (T : Txt K mg a base) : FnOk P w K mg base (L2.CX P w) 1 a.f__law_text_by a.d__law_text_by ["_law_cell"] (spM K mg 1 m__law_text_by) :=
  fn_ok (k := 0) T.F__law_text_by sc__law_text_by fun cdv A outer s H E hr =>
    (ms_cons (ms_asg (i := 1) sc__law_text_by.nd me_str)
      (ms_cons (ms_asg (i := 1) sc__law_text_by.nd (me_add (me_var 1) me_str))
      (ms_one (ms_ret (me_join me_str (me_lc (own := [("_law_k", 2)]) sc__law_text_by.nd (mi_range1 T.z_range (me_mod (me_var 0) me_int)) (blkOk_by (own := [("_law_k", 2)]) (by kernel_rfl)) (fun _ _ _ _ _ => (mgc_name (i := 2) sc__law_text_by.nd)) (fun _ _ _ _ _ => mts_nil) (fun _ _ _ _ _ => (me_item hr (me_var 1) (me_mod (me_add (me_div (me_var 0) me_int) (me_mulA (me_var 2) (me_mod (me_div (me_var 0) me_int) me_int))) me_int)))))))))
theorem ok__law_stamp_by (T : Txt K mg a base) : FnOk P w K mg base (L2.CX P w) 2 a.f__law_stamp_by a.d__law_stamp_by ["_law_cell"] (spM K mg 1 m__law_stamp_by) :=
  fn_ok (k := 1) T.F__law_stamp_by sc__law_stamp_by fun cdv A outer s H E hr =>
    (ms_cons (ms_if (mt_cmp (op_eqA hr) o_eq (me_mod (me_var 0) me_int) me_int (nomark _)) (ms_one (ms_ret (me_call (ok__law_text_by T) hr T.F__law_text_by.kp T.g__law_text_by T.b__law_text_by (takes_of rfl rfl rfl rfl) (ma_cons (me_div (me_var 0) me_int) ma_nil) (len_cons len_nil)))) ms_nil)
      (ms_cons (ms_if (mt_cmp (op_eqA hr) o_eq (me_mod (me_var 0) me_int) me_int (nomark _)) (ms_one (ms_ret (me_mod (me_div (me_var 0) me_int) (me_pow me_int me_int)))) ms_nil)
      (ms_one (ms_ret (me_mod (me_div (me_var 0) me_int) me_int)))))
theorem ok__law_other (T : Txt K mg a base) : FnOk P w K mg base (L2.CX P w) 3 a.f__law_other a.d__law_other ["_law_cell", "_law_mark"] (spM K mg 2 m__law_other) :=
  fn_ok (k := 2) T.F__law_other sc__law_other fun cdv A outer s H E hr =>
    (ms_cons (ms_if (mt_cmp op_gt o_gt (me_mod (me_var 0) me_int) me_int (nomark _)) (ms_one (ms_ret (me_call (ok__law_stamp_by T) hr T.F__law_stamp_by.kp T.g__law_stamp_by T.b__law_stamp_by (takes_of rfl rfl rfl rfl) (ma_cons (me_div (me_var 0) me_int) ma_nil) (len_cons len_nil)))) ms_nil)
      (ms_cons (ms_if (mt_tru (me_isi T.z_isinstance (me_var 1) (me_ty (by rfl) T.z_str (by decide +kernel)))) (ms_one (ms_ret (me_add (me_var 1) me_str))) ms_nil)
      (ms_one (ms_ret (me_str1 T.z_str (me_var 1))))))
theorem ok__law_refused (T : Txt K mg a base) : FnOk P w K mg base (L2.CX P w) 80 a.f__law_refused a.d__law_refused ["_law_stamper_here", "_law_script", "_law_count", "_law_elder", "_law_marks", "_law_mark"] (spM K mg 6 m__law_refused) :=
  fn_ok (k := 79) T.F__law_refused sc__law_refused fun cdv A outer s H E hr =>
    (ms_cons (ms_setLc (i := 6) (own := [("_law_k", 12)]) sc__law_refused.nd (mi_range2 T.z_range me_int me_int) (blkOk_by (own := [("_law_k", 12)]) (by kernel_rfl)) (fun _ _ _ _ _ => (mgc_name (i := 12) sc__law_refused.nd)) (fun _ _ _ _ _ => mts_nil) (fun _ _ _ _ _ => (me_cmp (op_eqA hr) o_eq (me_mod (me_call (ok__law_cell_at T) hr T.F__law_cell_at.kp T.g__law_cell_at T.b__law_cell_at takes0 (ma_cons (me_var 1) (ma_cons (me_var 12) ma_nil)) (len_cons (len_cons len_nil))) me_int) me_int (nomark _))) (sw_true rfl rfl rfl (by decide +kernel)))
      (ms_cons (ms_setLc (i := 7) (own := [("_law_k", 12)]) sc__law_refused.nd (mi_range2 T.z_range me_int me_int) (blkOk_by (own := [("_law_k", 12)]) (by kernel_rfl)) (fun _ _ _ _ _ => (mgc_name (i := 12) sc__law_refused.nd)) (fun _ _ _ _ _ => mts_nil) (fun _ _ _ _ _ => (me_div (me_call (ok__law_cell_at T) hr T.F__law_cell_at.kp T.g__law_cell_at T.b__law_cell_at takes0 (ma_cons (me_var 1) (ma_cons (me_var 12) ma_nil)) (len_cons (len_cons len_nil))) me_int)) (sw_true rfl rfl rfl (by decide +kernel)))
      (ms_cons (ms_asg (i := 8) sc__law_refused.nd (me_var 2))
      (ms_cons (ms_if (mt_tru (me_item hr (me_var 6) me_int)) (ms_one (ms_asg (i := 8) sc__law_refused.nd (me_call (ok__law_no_count T) hr T.F__law_no_count.kp T.g__law_no_count T.b__law_no_count (takes_of rfl rfl rfl rfl) (ma_cons (me_item hr (me_var 7) me_int) (ma_cons (me_var 2) ma_nil)) (len_cons (len_cons len_nil))))) ms_nil)
      (ms_cons (ms_if (mt_tru (me_item hr (me_var 6) me_int)) (ms_one (ms_asg (i := 3) sc__law_refused.nd (me_call (ok__law_no_elder T) hr T.F__law_no_elder.kp T.g__law_no_elder T.b__law_no_elder (takes_of rfl rfl rfl rfl) (ma_cons (me_item hr (me_var 7) me_int) (ma_cons (me_var 2) ma_nil)) (len_cons (len_cons len_nil))))) ms_nil)
      (ms_cons (ms_if (mt_tru (me_item hr (me_var 6) me_int)) (ms_one (ms_asg (i := 4) sc__law_refused.nd (me_call (ok__law_no_paper T) hr T.F__law_no_paper.kp T.g__law_no_paper T.b__law_no_paper (takes_of rfl rfl rfl rfl) (ma_cons (me_item hr (me_var 7) me_int) (ma_cons (me_var 4) ma_nil)) (len_cons (len_cons len_nil))))) ms_nil)
      (ms_cons (ms_asg (i := 9) sc__law_refused.nd (me_call (ok__law_first T) hr T.F__law_first.kp T.g__law_first T.b__law_first (takes_of rfl rfl rfl rfl) (ma_cons (me_lst (ma_cons me_bl (ma_cons (me_or (me_item hr (me_var 6) me_int) (me_one (me_item hr (me_var 6) me_int))) (ma_cons (me_item hr (me_var 6) me_int) ma_nil)))) ma_nil) (len_cons len_nil)))
      (ms_cons (ms_if (mt_not (mt_tru (me_call (ok__law_is T) hr T.F__law_is.kp T.g__law_is T.b__law_is (takes_of rfl rfl rfl rfl) (ma_cons (me_call (ok__law_caught T) hr T.F__law_caught.kp T.g__law_caught T.b__law_caught (takes_of rfl rfl rfl rfl) (ma_cons me_int (ma_cons (me_var 0) (ma_cons (me_var 8) (ma_cons (me_var 3) (ma_cons (me_var 4) ma_nil))))) (len_cons (len_cons (len_cons (len_cons (len_cons len_nil)))))) (ma_cons (me_var 9) ma_nil)) (len_cons (len_cons len_nil))))) (ms_one (ms_ret me_bl)) ms_nil)
      (ms_cons (ms_asg (i := 10) sc__law_refused.nd (me_tup (ma_cons (me_var 2) (ma_cons (me_var 5) ma_nil))))
      (ms_cons (ms_if (mt_tru (me_item hr (me_var 6) me_int)) (ms_one (ms_asg (i := 10) sc__law_refused.nd (me_tup (ma_cons (me_var 2) (ma_cons (me_call (ok__law_other T) hr T.F__law_other.kp T.g__law_other T.b__law_other (takes_of rfl rfl rfl rfl) (ma_cons (me_item hr (me_var 7) me_int) (ma_cons (me_var 5) ma_nil)) (len_cons (len_cons len_nil))) ma_nil))))) ms_nil)
      (ms_cons (ms_asg (i := 11) sc__law_refused.nd (me_cmp (op_neA hr) o_ne (me_item hr (me_var 10) me_int) (me_var 5) (nomark _)))
      (ms_cons (ms_if (mt_tru (me_item hr (me_var 6) me_int)) (ms_one (ms_asg (i := 10) sc__law_refused.nd (me_call (ok__law_no_head T) hr T.F__law_no_head.kp T.g__law_no_head T.b__law_no_head (takes_of rfl rfl rfl rfl) (ma_cons (me_item hr (me_var 7) me_int) (ma_cons (me_var 2) (ma_cons (me_var 5) ma_nil))) (len_cons (len_cons (len_cons len_nil)))))) ms_nil)
      (ms_cons (ms_asg (i := 9) sc__law_refused.nd (me_call (ok__law_first T) hr T.F__law_first.kp T.g__law_first T.b__law_first (takes_of rfl rfl rfl rfl) (ma_cons (me_lst (ma_cons (me_item hr (me_var 6) me_int) (ma_cons (me_item hr (me_var 6) me_int) (ma_cons (me_item hr (me_var 6) me_int) (ma_cons (me_var 11) ma_nil))))) ma_nil) (len_cons len_nil)))
      (ms_one (ms_ret (me_call (ok__law_is T) hr T.F__law_is.kp T.g__law_is T.b__law_is (takes_of rfl rfl rfl rfl) (ma_cons (me_call (ok__law_caught T) hr T.F__law_caught.kp T.g__law_caught T.b__law_caught (takes_of rfl rfl rfl rfl) (ma_cons me_int (ma_cons (me_var 0) (ma_cons (me_var 10) (ma_cons (me_var 3) (ma_cons (me_var 4) ma_nil))))) (len_cons (len_cons (len_cons (len_cons (len_cons len_nil)))))) (ma_cons (me_var 9) ma_nil)) (len_cons (len_cons len_nil))))))))))))))))))
theorem ok_Row___init__ (T : Txt K mg a base) : FnOk P w K mg base (L2.CX P w) 1 a.f_Row___init__ a.d_Row___init__ ["self", "stamper"] (spM K mg 2 m_Row___init__) :=
  fn_ok (k := 0) T.F_Row___init__ sc_Row___init__ fun cdv A outer s H E hr =>
    (ms_cons (ms_fld T.D_stamper (me_var 0) (me_var 1))
      (ms_one (ms_fld T.D_entries (me_var 0) (me_lst ma_nil))))
theorem rok_top_of (T : Txt K mg a base) : ∀ n : Nat, FnOk P w K mg base (L2.CX P w) (n + 6) a.f_top_of a.d_top_of ["stamper", "entries"] (spM K mg 2 (r_top_of n))
  | 0 => fn_stuck
  | n + 1 => have RF := rok_top_of T n; have hi : 6 ≤ n + 6 := Nat.le_add_left _ _; fn_ok (k := n + 6) T.F_top_of sc_top_of fun cdv A outer s H E hr =>
    (ms_cons (ms_asg (i := 2) sc_top_of.nd (me_len T.z_len (me_var 1)))
      (ms_cons (ms_if (mt_cmp (op_eqA hr) o_eq (me_var 2) me_int (nomark _)) (ms_one (ms_ret (me_callv (i := 0) (tab := tabV) (vok_cons (nq__law_weak__0 T) (vok_cons (nq_writing__1 T) (vok_cons (nq_counting__2 T) (vok_cons (nq__law_sure__3 T) vok_nil (hkj := by omega)) (hkj := by omega)) (hkj := by omega)) (hkj := by omega)) hr (takes_of rfl rfl rfl rfl) (ma_cons (me_tup (ma_cons me_str ma_nil)) ma_nil) (len_cons len_nil)))) ms_nil)
      (ms_cons (ms_if (mt_cmp (op_eqA hr) o_eq (me_var 2) me_int (nomark _)) (ms_one (ms_ret (me_callv (i := 0) (tab := tabV) (vok_cons (nq__law_weak__0 T) (vok_cons (nq_writing__1 T) (vok_cons (nq_counting__2 T) (vok_cons (nq__law_sure__3 T) vok_nil (hkj := by omega)) (hkj := by omega)) (hkj := by omega)) (hkj := by omega)) hr (takes_of rfl rfl rfl rfl) (ma_cons (me_tup (ma_cons me_str (ma_cons (me_item hr (me_var 1) me_int) ma_nil))) ma_nil) (len_cons len_nil)))) ms_nil)
      (ms_cons (ms_asg (i := 3) sc_top_of.nd (me_call (ok_half T) hr T.F_half.kp T.g_half T.b_half (takes_of rfl rfl rfl rfl) (ma_cons (me_var 2) ma_nil) (len_cons len_nil) (hkj := by omega)))
      (ms_cons (ms_asg (i := 4) sc_top_of.nd (me_call RF hr T.F_top_of.kp T.g_top_of T.b_top_of (takes_of rfl rfl rfl rfl) (ma_cons (me_var 0) (ma_cons (me_slice (me_var 1) mo_none (mo_some (me_var 3))) ma_nil)) (len_cons (len_cons len_nil)) (hkj := by omega)))
      (ms_cons (ms_asg (i := 5) sc_top_of.nd (me_call RF hr T.F_top_of.kp T.g_top_of T.b_top_of (takes_of rfl rfl rfl rfl) (ma_cons (me_var 0) (ma_cons (me_slice (me_var 1) (mo_some (me_var 3)) mo_none) ma_nil)) (len_cons (len_cons len_nil)) (hkj := by omega)))
      (ms_one (ms_ret (me_callv (i := 0) (tab := tabV) (vok_cons (nq__law_weak__0 T) (vok_cons (nq_writing__1 T) (vok_cons (nq_counting__2 T) (vok_cons (nq__law_sure__3 T) vok_nil (hkj := by omega)) (hkj := by omega)) (hkj := by omega)) (hkj := by omega)) hr (takes_of rfl rfl rfl rfl) (ma_cons (me_tup (ma_cons me_str (ma_cons (me_var 4) (ma_cons (me_var 5) ma_nil)))) ma_nil) (len_cons len_nil))))))))))
theorem ok_top_of (T : Txt K mg a base) : FnOk P w K mg base (L2.CX P w) 76 a.f_top_of a.d_top_of ["stamper", "entries"] (spM K mg 2 m_top_of) := rok_top_of T 70
theorem ok_Row_first (T : Txt K mg a base) : FnOk P w K mg base (L2.CX P w) 3 a.f_Row_first a.d_Row_first ["self", "count"] (spM K mg 2 m_Row_first) :=
  fn_ok (k := 2) T.F_Row_first sc_Row_first fun cdv A outer s H E hr =>
    (ms_cons (ms_if (mt_not (mt_tru (me_call (ok_is_below T) hr T.F_is_below.kp T.g_is_below T.b_is_below (takes_of rfl rfl rfl rfl) (ma_cons (me_var 1) (ma_cons (me_add (me_len T.z_len (me_fld (me_var 0))) me_int) ma_nil)) (len_cons (len_cons len_nil))))) (ms_one (ms_raise (takes_of rfl rfl rfl rfl) (mk_none PySem.F.excBase_ValueError T.Q_NoPlace T.G_NoPlace T.K_NoPlace (raises_own T.S_NoPlace T.T_NoPlace)))) ms_nil)
      (ms_one (ms_ret (me_slice (me_fld (me_var 0)) mo_none (mo_some (me_var 1))))))
theorem ok_Row_mark_at (T : Txt K mg a base) : FnOk P w K mg base (L2.CX P w) 77 a.f_Row_mark_at a.d_Row_mark_at ["self", "count"] (spM K mg 2 m_Row_mark_at) :=
  fn_ok (k := 76) T.F_Row_mark_at sc_Row_mark_at fun cdv A outer s H E hr =>
    (ms_cons (ms_asg (i := 2) sc_Row_mark_at.nd (me_call (ok_top_of T) hr T.F_top_of.kp T.g_top_of T.b_top_of (takes_of rfl rfl rfl rfl) (ma_cons (me_fld (me_var 0)) (ma_cons (me_meth (tab_cons T.G_Row T.N_Row_first (ok_Row_first T) T.b_Row_first tab_nil) hr (me_var 0) (takes_of rfl rfl rfl rfl) (ma_cons (me_var 1) ma_nil) (len_more (len_cons len_nil))) ma_nil)) (len_cons (len_cons len_nil))))
      (ms_one (ms_ret (me_callf (tab := tabV) (vok_cons (nq__law_weak__0 T) (vok_cons (nq_writing__1 T) (vok_cons (nq_counting__2 T) (vok_cons (nq__law_sure__3 T) vok_nil)))) hr (me_var 0) (takes_of rfl rfl rfl rfl) (ma_cons (me_tup (ma_cons me_str (ma_cons (me_var 1) (ma_cons (me_var 2) ma_nil)))) ma_nil) (len_cons len_nil)))))
theorem ok_Row_add (T : Txt K mg a base) : FnOk P w K mg base (L2.CX P w) 3 a.f_Row_add a.d_Row_add ["self", "entry"] (spM K mg 2 m_Row_add) :=
  fn_ok (k := 2) T.F_Row_add sc_Row_add fun cdv A outer s H E hr =>
    (ms_cons (ms_if (mt_not (mt_tru (me_call (ok_is_stamp T) hr T.F_is_stamp.kp T.g_is_stamp T.b_is_stamp (takes_of rfl rfl rfl rfl) (ma_cons (me_var 1) ma_nil) (len_cons len_nil)))) (ms_one (ms_raise (takes_of rfl rfl rfl rfl) (mk_none PySem.F.excBase_ValueError T.Q_NoStamp T.G_NoStamp T.K_NoStamp (raises_own T.S_NoStamp T.T_NoStamp)))) ms_nil)
      (ms_cons (ms_expr (me_append (me_fld (me_var 0)) (me_var 1)))
      (ms_one (ms_ret (me_sub (me_len T.z_len (me_fld (me_var 0))) me_int)))))
theorem ok__law_near (T : Txt K mg a base) : FnOk P w K mg base (L2.CX P w) 2 a.f__law_near a.d__law_near ["_law_cell", "_law_size"] (spM K mg 2 m__law_near) :=
  fn_ok (k := 1) T.F__law_near sc__law_near fun cdv A outer s H E hr =>
    (ms_cons (ms_if (mt_cmp op_gt o_gt (me_mod (me_var 0) me_int) me_int (nomark _)) (ms_one (ms_ret (me_sub (me_mod (me_div (me_var 0) me_int) (me_add (me_var 1) me_int)) me_int))) ms_nil)
      (ms_one (ms_ret (me_call (ok__law_no_stamp T) hr T.F__law_no_stamp.kp T.g__law_no_stamp T.b__law_no_stamp (takes_of rfl rfl rfl rfl) (ma_cons (me_div (me_var 0) me_int) ma_nil) (len_cons len_nil)))))
theorem ok__law_whole (T : Txt K mg a base) : FnOk P w K mg base (L2.CX P w) 1 a.f__law_whole a.d__law_whole ["_law_found"] (spM K mg 1 m__law_whole) :=
  fn_ok (k := 0) T.F__law_whole sc__law_whole fun cdv A outer s H E hr =>
    (ms_one (ms_ret (me_and (me_isi T.z_isinstance (me_var 0) (me_ty (by rfl) T.z_int (by decide +kernel))) (me_one (me_not (me_isi T.z_isinstance (me_var 0) (me_ty (by rfl) T.z_bool (by decide +kernel))))))))
theorem ok__law_within (T : Txt K mg a base) : FnOk P w K mg base (L2.CX P w) 2 a.f__law_within a.d__law_within ["_law_thing", "_law_many_here"] (spM K mg 2 m__law_within) :=
  fn_ok (k := 1) T.F__law_within sc__law_within fun cdv A outer s H E hr =>
    (ms_one (ms_ret (me_and (me_call (ok__law_whole T) hr T.F__law_whole.kp T.g__law_whole T.b__law_whole (takes_of rfl rfl rfl rfl) (ma_cons (me_var 0) ma_nil) (len_cons len_nil)) (me_one (me_chain op_le o_le op_lt o_lt me_int (me_var 0) (me_var 1))))))
theorem ok_Row_size (T : Txt K mg a base) : FnOk P w K mg base (L2.CX P w) 1 a.f_Row_size a.d_Row_size ["self"] (spM K mg 1 m_Row_size) :=
  fn_ok (k := 0) T.F_Row_size sc_Row_size fun cdv A outer s H E hr =>
    (ms_one (ms_ret (me_len T.z_len (me_fld (me_var 0)))))
theorem rok_grown (T : Txt K mg a base) : ∀ n : Nat, FnOk P w K mg base (L2.CX P w) (n + 77) a.f_grown a.d_grown ["stamper", "entries", "elder"] (spM K mg 3 (r_grown n))
  | 0 => fn_stuck
  | n + 1 => have RF := rok_grown T n; have hi : 77 ≤ n + 77 := Nat.le_add_left _ _; fn_ok (k := n + 77) T.F_grown sc_grown fun cdv A outer s H E hr =>
    (ms_cons (ms_asg (i := 3) sc_grown.nd (me_len T.z_len (me_var 1)))
      (ms_cons (ms_if (mt_cmp (op_eqA hr) o_eq (me_var 3) me_int (nomark _)) (ms_one (ms_ret (me_lst ma_nil))) ms_nil)
      (ms_cons (ms_if (mw_pt (mw_or (mt_cmp (op_eqA hr) o_eq (me_var 2) me_int (nomark _)) (mw_or1 (mt_cmp (op_eqA hr) o_eq (me_var 2) (me_var 3) (nomark _))))) (ms_one (ms_ret (me_lst (ma_cons (me_call (ok_top_of T) hr T.F_top_of.kp T.g_top_of T.b_top_of (takes_of rfl rfl rfl rfl) (ma_cons (me_var 0) (ma_cons (me_var 1) ma_nil)) (len_cons (len_cons len_nil)) (hkj := by omega)) ma_nil)))) ms_nil)
      (ms_cons (ms_asg (i := 4) sc_grown.nd (me_call (ok_half T) hr T.F_half.kp T.g_half T.b_half (takes_of rfl rfl rfl rfl) (ma_cons (me_var 3) ma_nil) (len_cons len_nil) (hkj := by omega)))
      (ms_cons (ms_if (mt_cmp op_le o_le (me_var 2) (me_var 4) (nomark _)) (ms_one (ms_ret (me_add (me_call RF hr T.F_grown.kp T.g_grown T.b_grown (takes_of rfl rfl rfl rfl) (ma_cons (me_var 0) (ma_cons (me_slice (me_var 1) mo_none (mo_some (me_var 4))) (ma_cons (me_var 2) ma_nil))) (len_cons (len_cons (len_cons len_nil))) (hkj := by omega)) (me_lst (ma_cons (me_call (ok_top_of T) hr T.F_top_of.kp T.g_top_of T.b_top_of (takes_of rfl rfl rfl rfl) (ma_cons (me_var 0) (ma_cons (me_slice (me_var 1) (mo_some (me_var 4)) mo_none) ma_nil)) (len_cons (len_cons len_nil)) (hkj := by omega)) ma_nil))))) ms_nil)
      (ms_cons (ms_asg (i := 5) sc_grown.nd (me_call (ok_top_of T) hr T.F_top_of.kp T.g_top_of T.b_top_of (takes_of rfl rfl rfl rfl) (ma_cons (me_var 0) (ma_cons (me_slice (me_var 1) mo_none (mo_some (me_var 4))) ma_nil)) (len_cons (len_cons len_nil)) (hkj := by omega)))
      (ms_one (ms_ret (me_add (me_lst (ma_cons (me_var 5) ma_nil)) (me_call RF hr T.F_grown.kp T.g_grown T.b_grown (takes_of rfl rfl rfl rfl) (ma_cons (me_var 0) (ma_cons (me_slice (me_var 1) (mo_some (me_var 4)) mo_none) (ma_cons (me_sub (me_var 2) (me_var 4)) ma_nil))) (len_cons (len_cons (len_cons len_nil))) (hkj := by omega)))))))))))
theorem ok_grown (T : Txt K mg a base) : FnOk P w K mg base (L2.CX P w) 147 a.f_grown a.d_grown ["stamper", "entries", "elder"] (spM K mg 3 m_grown) := rok_grown T 70
theorem ok_Row_growth_paper (T : Txt K mg a base) : FnOk P w K mg base (L2.CX P w) 148 a.f_Row_growth_paper a.d_Row_growth_paper ["self", "count", "elder"] (spM K mg 3 m_Row_growth_paper) :=
  fn_ok (k := 147) T.F_Row_growth_paper sc_Row_growth_paper fun cdv A outer s H E hr =>
    (ms_cons (ms_asg (i := 3) sc_Row_growth_paper.nd (me_meth (tab_cons T.G_Row T.N_Row_first (ok_Row_first T) T.b_Row_first tab_nil) hr (me_var 0) (takes_of rfl rfl rfl rfl) (ma_cons (me_var 1) ma_nil) (len_more (len_cons len_nil))))
      (ms_cons (ms_if (mt_not (mt_tru (me_call (ok_is_below T) hr T.F_is_below.kp T.g_is_below T.b_is_below (takes_of rfl rfl rfl rfl) (ma_cons (me_var 2) (ma_cons (me_add (me_var 1) me_int) ma_nil)) (len_cons (len_cons len_nil))))) (ms_one (ms_raise (takes_of rfl rfl rfl rfl) (mk_none PySem.F.excBase_ValueError T.Q_NoPlace T.G_NoPlace T.K_NoPlace (raises_own T.S_NoPlace T.T_NoPlace)))) ms_nil)
      (ms_one (ms_ret (me_tuple1 T.z_tuple (me_call (ok_grown T) hr T.F_grown.kp T.g_grown T.b_grown (takes_of rfl rfl rfl rfl) (ma_cons (me_fld (me_var 0)) (ma_cons (me_var 3) (ma_cons (me_var 2) ma_nil))) (len_cons (len_cons (len_cons len_nil)))))))))
theorem ok__law_asked (T : Txt K mg a base) : FnOk P w K mg base (L2.CX P w) 149 a.f__law_asked a.d__law_asked ["_law_what", "_law_row", "_law_one", "_law_other_here"] (spM K mg 4 m__law_asked) :=
  fn_ok (k := 148) T.F__law_asked sc__law_asked fun cdv A outer s H E hr =>
    (ms_cons (ms_asg (i := 4) sc__law_asked.nd me_non)
      (ms_cons (ms_try (isa := isa) sc__law_asked.nd (takes_of rfl rfl rfl rfl) (fun _ _ _ tk1 po1 => (ms_one (ms_if (mt_cmp (op_eqA hr) o_eq (me_var 0) me_int (nomark _)) (ms_one (ms_expr (me_meth (tab_cons T.G_Row T.N_Row_mark_at (ok_Row_mark_at T) T.b_Row_mark_at tab_nil) hr (me_var 1) tk1 (ma_cons (me_var 2) ma_nil) (len_more (len_cons len_nil))))) (ms_one (ms_expr (me_meth (tab_cons T.G_Row T.N_Row_growth_paper (ok_Row_growth_paper T) T.b_Row_growth_paper tab_nil) hr (me_var 1) tk1 (ma_cons (me_var 2) (ma_cons (me_var 3) ma_nil)) (len_more (len_cons (len_cons len_nil))))))))) ms_nil (hde_named (i := 5) T.isa T.G_StampError (fun _ _ => (ms_one (ms_asg (i := 4) sc__law_asked.nd (me_var 5)))) hde_nil))
      (ms_one (ms_ret (me_var 4)))))
theorem ok__law_rows (T : Txt K mg a base) : FnOk P w K mg base (L2.CX P w) 150 a.f__law_rows a.d__law_rows ["_law_stamper_here", "_law_script"] (spM K mg 2 m__law_rows) :=
  fn_ok (k := 149) T.F__law_rows sc__law_rows fun cdv A outer s H E hr =>
    (ms_cons (ms_asg (i := 2) sc__law_rows.nd (me_new T.M_Row T.C_Row (ok_Row___init__ T) hr T.G_Row T.b_Row___init__ (takes_of rfl rfl rfl rfl) (ma_cons (me_var 0) ma_nil) (len_more (len_cons len_nil))))
      (ms_cons (ms_asg (i := 3) sc__law_rows.nd (me_mod (me_call (ok__law_cell_at T) hr T.F__law_cell_at.kp T.g__law_cell_at T.b__law_cell_at (takes_of rfl rfl rfl rfl) (ma_cons (me_var 1) (ma_cons me_int ma_nil)) (len_cons (len_cons len_nil))) me_int))
      (ms_cons (ms_for (passes_of rfl) (mi_range2 T.z_range me_int (me_add me_int (me_var 3))) (mg_name (i := 4) sc__law_rows.nd) (ms_one (ms_expr (me_meth (tab_cons T.G_Row T.N_Row_add (ok_Row_add T) T.b_Row_add tab_nil) hr (me_var 2) (takes_of rfl rfl rfl rfl) (ma_cons (me_call (ok__law_stamp_by T) hr T.F__law_stamp_by.kp T.g__law_stamp_by T.b__law_stamp_by (takes_of rfl rfl rfl rfl) (ma_cons (me_add (me_call (ok__law_cell_at T) hr T.F__law_cell_at.kp T.g__law_cell_at T.b__law_cell_at (takes_of rfl rfl rfl rfl) (ma_cons (me_var 1) (ma_cons (me_var 4) ma_nil)) (len_cons (len_cons len_nil))) (me_var 4)) ma_nil) (len_cons len_nil)) ma_nil) (len_more (len_cons len_nil))))))
      (ms_cons (ms_asg (i := 5) sc__law_rows.nd (me_meth (tab_cons T.G_Row T.N_Row_mark_at (ok_Row_mark_at T) T.b_Row_mark_at tab_nil) hr (me_var 2) (takes_of rfl rfl rfl rfl) (ma_cons (me_var 3) ma_nil) (len_more (len_cons len_nil))))
      (ms_cons (ms_for (passes_of rfl) (mi_range2 T.z_range me_int (me_add me_int (me_min2 T.z_min (me_len T.z_len (me_var 1)) me_int))) (mg_name (i := 4) sc__law_rows.nd) (ms_cons (ms_asg (i := 6) sc__law_rows.nd (me_call (ok__law_cell_at T) hr T.F__law_cell_at.kp T.g__law_cell_at T.b__law_cell_at (takes_of rfl rfl rfl rfl) (ma_cons (me_var 1) (ma_cons (me_var 4) ma_nil)) (len_cons (len_cons len_nil))))
      (ms_cons (ms_asg (i := 7) sc__law_rows.nd (me_call (ok__law_near T) hr T.F__law_near.kp T.g__law_near T.b__law_near (takes_of rfl rfl rfl rfl) (ma_cons (me_call (ok__law_cell_at T) hr T.F__law_cell_at.kp T.g__law_cell_at T.b__law_cell_at (takes_of rfl rfl rfl rfl) (ma_cons (me_var 1) (ma_cons (me_add (me_var 4) me_int) ma_nil)) (len_cons (len_cons len_nil))) (ma_cons (me_var 3) ma_nil)) (len_cons (len_cons len_nil))))
      (ms_cons (ms_asg (i := 8) sc__law_rows.nd (me_call (ok__law_near T) hr T.F__law_near.kp T.g__law_near T.b__law_near (takes_of rfl rfl rfl rfl) (ma_cons (me_div (me_call (ok__law_cell_at T) hr T.F__law_cell_at.kp T.g__law_cell_at T.b__law_cell_at (takes_of rfl rfl rfl rfl) (ma_cons (me_var 1) (ma_cons (me_add (me_var 4) me_int) ma_nil)) (len_cons (len_cons len_nil))) me_int) (ma_cons (me_var 3) ma_nil)) (len_cons (len_cons len_nil))))
      (ms_cons (ms_asg (i := 9) sc__law_rows.nd (me_call (ok__law_within T) hr T.F__law_within.kp T.g__law_within T.b__law_within (takes_of rfl rfl rfl rfl) (ma_cons (me_var 7) (ma_cons (me_add (me_var 3) me_int) ma_nil)) (len_cons (len_cons len_nil))))
      (ms_cons (ms_if (mt_cmp op_gt o_gt (me_mod (me_var 6) me_int) me_int (nomark _)) (ms_one (ms_asg (i := 9) sc__law_rows.nd (me_and (me_var 9) (me_one (me_call (ok__law_within T) hr T.F__law_within.kp T.g__law_within T.b__law_within (takes_of rfl rfl rfl rfl) (ma_cons (me_var 8) (ma_cons (me_add (me_var 7) me_int) ma_nil)) (len_cons (len_cons len_nil))))))) ms_nil)
      (ms_one (ms_if (mt_not (mt_tru (me_call (ok__law_is T) hr T.F__law_is.kp T.g__law_is T.b__law_is (takes_of rfl rfl rfl rfl) (ma_cons (me_call (ok__law_asked T) hr T.F__law_asked.kp T.g__law_asked T.b__law_asked (takes_of rfl rfl rfl rfl) (ma_cons (me_mod (me_var 6) me_int) (ma_cons (me_var 2) (ma_cons (me_var 7) (ma_cons (me_var 8) ma_nil)))) (len_cons (len_cons (len_cons (len_cons len_nil))))) (ma_cons (me_item hr (me_lst (ma_cons me_int (ma_cons (me_neg me_int) ma_nil))) (me_int1 T.z_int (me_var 9))) ma_nil)) (len_cons (len_cons len_nil))))) (ms_one (ms_ret me_bl)) ms_nil))))))))
      (ms_one (ms_ret (me_and (me_cmp (op_eqA hr) o_eq (me_meth0 (tab_cons T.G_Row T.N_Row_size (ok_Row_size T) T.b_Row_size tab_nil) hr (me_var 2) (takes_of rfl rfl rfl rfl)) (me_var 3) (nomark _)) (me_one (me_cmp (op_eqA hr) o_eq (me_meth (tab_cons T.G_Row T.N_Row_mark_at (ok_Row_mark_at T) T.b_Row_mark_at tab_nil) hr (me_var 2) (takes_of rfl rfl rfl rfl) (ma_cons (me_var 3) ma_nil) (len_more (len_cons len_nil))) (me_var 5) (nomark _)))))))))))
theorem ok_law (T : Txt K mg a base) : FnOk P w K mg base (L2.CX P w) 151 a.f_law a.d_law ["_law_script"] (spM K mg 1 m_law) :=
  fn_ok (k := 150) T.F_law sc_law fun cdv A outer s H E hr =>
    (ms_cons (ms_asg (i := 1) sc_law.nd (me_call (ok__law_stamper T) hr T.F__law_stamper.kp T.g__law_stamper T.b__law_stamper (takes_of rfl rfl rfl rfl) (ma_cons (me_call (ok__law_cell_at T) hr T.F__law_cell_at.kp T.g__law_cell_at T.b__law_cell_at (takes_of rfl rfl rfl rfl) (ma_cons (me_var 0) (ma_cons me_int ma_nil)) (len_cons (len_cons len_nil))) ma_nil) (len_cons len_nil)))
      (ms_cons (ms_asg (i := 2) sc_law.nd (me_call (ok__law_count_by T) hr T.F__law_count_by.kp T.g__law_count_by T.b__law_count_by (takes_of rfl rfl rfl rfl) (ma_cons (me_call (ok__law_cell_at T) hr T.F__law_cell_at.kp T.g__law_cell_at T.b__law_cell_at (takes_of rfl rfl rfl rfl) (ma_cons (me_var 0) (ma_cons me_int ma_nil)) (len_cons (len_cons len_nil))) ma_nil) (len_cons len_nil)))
      (ms_cons (ms_asg (i := 3) sc_law.nd (me_mod (me_call (ok__law_cell_at T) hr T.F__law_cell_at.kp T.g__law_cell_at T.b__law_cell_at (takes_of rfl rfl rfl rfl) (ma_cons (me_var 0) (ma_cons me_int ma_nil)) (len_cons (len_cons len_nil))) (me_add (me_var 2) me_int)))
      (ms_cons (ms_asg (i := 4) sc_law.nd (me_call (ok__law_many T) hr T.F__law_many.kp T.g__law_many T.b__law_many (takes_of rfl rfl rfl rfl) (ma_cons (me_var 2) (ma_cons (me_var 3) ma_nil)) (len_cons (len_cons len_nil))))
      (ms_cons (ms_asg (i := 5) sc_law.nd (me_tuple1 T.z_tuple (me_lc (own := [("_law_k", 9)]) sc_law.nd (mi_range1 T.z_range (me_var 4)) (blkOk_by (own := [("_law_k", 9)]) (by kernel_rfl)) (fun _ _ _ _ _ => (mgc_name (i := 9) sc_law.nd)) (fun _ _ _ _ _ => mts_nil) (fun _ _ _ _ _ => (me_call (ok__law_stamp_by T) hr T.F__law_stamp_by.kp T.g__law_stamp_by T.b__law_stamp_by takes0 (ma_cons (me_add (me_call (ok__law_cell_at T) hr T.F__law_cell_at.kp T.g__law_cell_at T.b__law_cell_at takes0 (ma_cons (me_var 0) (ma_cons (me_add me_int (me_var 9)) ma_nil)) (len_cons (len_cons len_nil))) (me_mulA me_int (me_var 9))) ma_nil) (len_cons len_nil))))))
      (ms_cons (ms_asg (i := 6) sc_law.nd (me_call (ok__law_rows_of T) hr T.F__law_rows_of.kp T.g__law_rows_of T.b__law_rows_of (takes_of rfl rfl rfl rfl) (ma_cons (me_var 1) (ma_cons (me_var 2) (ma_cons (me_var 3) (ma_cons (me_var 5) ma_nil)))) (len_cons (len_cons (len_cons (len_cons len_nil))))))
      (ms_cons (ms_if (mt_not (mt_tru (me_call (ok__law_refused T) hr T.F__law_refused.kp T.g__law_refused T.b__law_refused (takes_of rfl rfl rfl rfl) (ma_cons (me_var 1) (ma_cons (me_var 0) (ma_cons (me_var 2) (ma_cons (me_var 3) (ma_cons (me_var 5) (ma_cons (me_item hr (me_var 6) me_int) ma_nil)))))) (len_cons (len_cons (len_cons (len_cons (len_cons (len_cons len_nil))))))))) (ms_one (ms_ret me_bl)) ms_nil)
      (ms_cons (ms_if (mt_cmp (op_neA hr) o_ne (me_call (ok_growth_answer T) hr T.F_growth_answer.kp T.g_growth_answer T.b_growth_answer (takes_of rfl rfl rfl rfl) (ma_cons (me_var 1) (ma_cons (me_tup (ma_cons (me_var 2) (ma_cons (me_item hr (me_var 6) me_int) ma_nil))) (ma_cons (me_var 3) (ma_cons (me_var 5) ma_nil)))) (len_cons (len_cons (len_cons (len_cons len_nil))))) (me_item hr (me_var 6) me_int) (nomark _)) (ms_one (ms_ret me_bl)) ms_nil)
      (ms_cons (ms_asg (i := 7) sc_law.nd (me_lst (ma_cons (me_tup (ma_cons me_str ma_nil)) (ma_cons (me_tup (ma_cons me_str (ma_cons me_int (ma_cons (me_callv (i := 1) (tab := tabV) (vok_cons (nq__law_weak__0 T) (vok_cons (nq_writing__1 T) (vok_cons (nq_counting__2 T) (vok_cons (nq__law_sure__3 T) vok_nil)))) hr (takes_of rfl rfl rfl rfl) (ma_cons (me_tup (ma_cons me_str ma_nil)) ma_nil) (len_cons len_nil)) ma_nil)))) ma_nil))))
      (ms_cons (ms_asg (i := 8) sc_law.nd (me_call (ok_growth_terms T) hr T.F_growth_terms.kp T.g_growth_terms T.b_growth_terms (takes_of rfl rfl rfl rfl) (ma_cons (me_var 1) (ma_cons me_int (ma_cons me_int (ma_cons (me_tup ma_nil) ma_nil)))) (len_cons (len_cons (len_cons (len_cons len_nil))))))
      (ms_cons (ms_if (mw_pt (mw_or (mt_not (mt_tru (me_isi T.z_isinstance (me_var 8) (me_ty (by rfl) T.z_tuple (by decide +kernel))))) (mw_or1 (mt_cmp (op_neA hr) o_ne (me_var 8) (me_tup (ma_cons (me_var 7) (ma_cons (me_var 7) ma_nil))) (nomark _))))) (ms_one (ms_ret me_bl)) ms_nil)
      (ms_cons (ms_expr (me_clear (me_item hr (me_var 8) me_int)))
      (ms_one (ms_ret (me_and (me_cmp (op_eqA hr) o_eq (me_item hr (me_var 8) me_int) (me_var 7) (nomark _)) (me_and (me_cmp (op_eqA hr) o_eq (me_call (ok_growth_terms T) hr T.F_growth_terms.kp T.g_growth_terms T.b_growth_terms (takes_of rfl rfl rfl rfl) (ma_cons (me_var 1) (ma_cons me_int (ma_cons me_int (ma_cons (me_tup ma_nil) ma_nil)))) (len_cons (len_cons (len_cons (len_cons len_nil))))) (me_tup (ma_cons (me_var 7) (ma_cons (me_var 7) ma_nil))) (nomark _)) (me_one (me_call (ok__law_rows T) hr T.F__law_rows.kp T.g__law_rows T.b__law_rows (takes_of rfl rfl rfl rfl) (ma_cons (me_var 1) (ma_cons (me_var 0) ma_nil)) (len_cons (len_cons len_nil))))))))))))))))))))
end
theorem all_mk {l : PySem.W.OpenLaw} {w : World} {K : PySem.W.Frag} {h : Heap} {mg : Str → Option Value} {fa : Addr} (X : K.In h) (G : h.Ns mainGlobals mg) (hfa : mg "law" = some (.ref fa)) (own : ∀ y ∈ (["_law_weak", "writing", "counting", "_law_sure"] : List Str), ∀ f, mg y = some (.ref f) → LamX.OwnTab K f h)
    {f0 cc0 tt0 f1 cc1 tt1 f2 cc2 tt2 f3 cc3 tt3 f4 f5 f6 f7 f8 f9 f10 f11 f12 f13 f14 f15 f16 f17 f18 f19 f20 f21 f22 f23 f24 f25 f26 f27 f28 f29 f30 f31 f32 f33 f34 f35 f36 f37 f38 f39 f40 f41 f42 f43 f44 f45 f46 f47 f48 f49 f50 kk0 kk1 kk2 kk3 kk4 kk5 kk6 kk7 : Addr} {od0 an0 xd0 od1 an1 xd1 od2 an2 xd2 od3 an3 xd3 od4 an4 od5 an5 od6 an6 od7 an7 od8 an8 od9 an9 od10 an10 od11 an11 od12 an12 od13 an13 od14 an14 od15 an15 od16 an16 od17 an17 od18 an18 od19 an19 od20 an20 od21 an21 od22 an22 od23 an23 od24 an24 od25 an25 od26 an26 od27 an27 od28 an28 od29 an29 od30 an30 od31 an31 od32 an32 od33 an33 od34 an34 od35 an35 od36 an36 od37 an37 od38 an38 od39 an39 od40 an40 od41 an41 od42 an42 od43 an43 od44 an44 od45 an45 od46 an46 od47 an47 od48 an48 od49 an49 od50 an50 : Option Addr} {sl0 xs0 sl1 xs1 sl2 xs2 sl3 xs3 sl4 sl5 sl6 sl7 sl8 sl9 sl10 sl11 sl12 sl13 sl14 sl15 sl16 sl17 sl18 sl19 sl20 sl21 sl22 sl23 sl24 sl25 sl26 sl27 sl28 sl29 sl30 sl31 sl32 sl33 sl34 sl35 sl36 sl37 sl38 sl39 sl40 sl41 sl42 sl43 sl44 sl45 sl46 sl47 sl48 sl49 sl50 : Array (Option Value)} {xv0 xv1 xv2 xv3 : Array Value} {oc0 kV0 dc0 pm0 ct0 xe0 oc1 kV1 dc1 pm1 ct1 xe1 oc2 kV2 dc2 pm2 ct2 xe2 oc3 kV3 dc3 pm3 ct3 xe3 oc4 kV4 dc4 pm4 cd4 ct4 oc5 kV5 dc5 pm5 cd5 ct5 oc6 kV6 dc6 pm6 cd6 ct6 oc7 kV7 dc7 pm7 cd7 ct7 oc8 kV8 dc8 pm8 cd8 ct8 oc9 kV9 dc9 pm9 cd9 ct9 oc10 kV10 dc10 pm10 cd10 ct10 oc11 kV11 dc11 pm11 cd11 ct11 oc12 kV12 dc12 pm12 cd12 ct12 oc13 kV13 dc13 pm13 cd13 ct13 oc14 kV14 dc14 pm14 cd14 ct14 oc15 kV15 dc15 pm15 cd15 ct15 oc16 kV16 dc16 pm16 cd16 ct16 oc17 kV17 dc17 pm17 cd17 ct17 oc18 kV18 dc18 pm18 cd18 ct18 oc19 kV19 dc19 pm19 cd19 ct19 oc20 kV20 dc20 pm20 cd20 ct20 oc21 kV21 dc21 pm21 cd21 ct21 oc22 kV22 dc22 pm22 cd22 ct22 oc23 kV23 dc23 pm23 cd23 ct23 oc24 kV24 dc24 pm24 cd24 ct24 oc25 kV25 dc25 pm25 cd25 ct25 oc26 kV26 dc26 pm26 cd26 ct26 oc27 kV27 dc27 pm27 cd27 ct27 oc28 kV28 dc28 pm28 cd28 ct28 oc29 kV29 dc29 pm29 cd29 ct29 oc30 kV30 dc30 pm30 cd30 ct30 oc31 kV31 dc31 pm31 cd31 ct31 oc32 kV32 dc32 pm32 cd32 ct32 oc33 kV33 dc33 pm33 cd33 ct33 oc34 kV34 dc34 pm34 cd34 ct34 oc35 kV35 dc35 pm35 cd35 ct35 oc36 kV36 dc36 pm36 cd36 ct36 oc37 kV37 dc37 pm37 cd37 ct37 oc38 kV38 dc38 pm38 cd38 ct38 oc39 kV39 dc39 pm39 cd39 ct39 oc40 kV40 dc40 pm40 cd40 ct40 oc41 kV41 dc41 pm41 cd41 ct41 oc42 kV42 dc42 pm42 cd42 ct42 oc43 kV43 dc43 pm43 cd43 ct43 oc44 kV44 dc44 pm44 cd44 ct44 oc45 kV45 dc45 pm45 cd45 ct45 oc46 kV46 dc46 pm46 cd46 ct46 oc47 kV47 dc47 pm47 cd47 ct47 oc48 kV48 dc48 pm48 cd48 ct48 oc49 kV49 dc49 pm49 cd49 ct49 oc50 kV50 dc50 pm50 cd50 ct50 : Value}
    (a0 : PySem.W.nsIn K mainGlobals "_law_weak" = some (some (.ref f0)))
    (l0 : K.lookup f0 = some ⟨oc0, od0, .func (PySem.W.fnOf "_law_weak" "_law_weak" (defArgs s__law_weak) (defBody s__law_weak) (defScope s__law_weak) .none kV0 dc0 pm0 an0 (.ref cc0) ct0), sl0⟩)
    (c0 : PySem.W.codeIn K (.ref cc0) "_law_weak" = true)
    (o0 : K.lookup cc0 = some ⟨xe0, xd0, .fields xv0, xs0⟩)
    (p0 : xv0[11]? = some (.ref tt0))
    (q_h0 : PySem.W.codeHdIn K cc0 tt0 = true)
    (q_n0 : K.lookup tt0 = none)
    (k0 : PySem.W.keepIn K (.ref f0) = true)
    (a1 : PySem.W.nsIn K mainGlobals "writing" = some (some (.ref f1)))
    (l1 : K.lookup f1 = some ⟨oc1, od1, .func (PySem.W.fnOf "writing" "writing" (defArgs s_writing) (defBody s_writing) (defScope s_writing) .none kV1 dc1 pm1 an1 (.ref cc1) ct1), sl1⟩)
    (c1 : PySem.W.codeIn K (.ref cc1) "writing" = true)
    (o1 : K.lookup cc1 = some ⟨xe1, xd1, .fields xv1, xs1⟩)
    (p1 : xv1[11]? = some (.ref tt1))
    (q_h1 : PySem.W.codeHdIn K cc1 tt1 = true)
    (q_n1 : K.lookup tt1 = none)
    (q_d0_1 : (tt0 == tt1) = false)
    (k1 : PySem.W.keepIn K (.ref f1) = true)
    (a2 : PySem.W.nsIn K mainGlobals "counting" = some (some (.ref f2)))
    (l2 : K.lookup f2 = some ⟨oc2, od2, .func (PySem.W.fnOf "counting" "counting" (defArgs s_counting) (defBody s_counting) (defScope s_counting) .none kV2 dc2 pm2 an2 (.ref cc2) ct2), sl2⟩)
    (c2 : PySem.W.codeIn K (.ref cc2) "counting" = true)
    (o2 : K.lookup cc2 = some ⟨xe2, xd2, .fields xv2, xs2⟩)
    (p2 : xv2[11]? = some (.ref tt2))
    (q_h2 : PySem.W.codeHdIn K cc2 tt2 = true)
    (q_n2 : K.lookup tt2 = none)
    (q_d0_2 : (tt0 == tt2) = false)
    (q_d1_2 : (tt1 == tt2) = false)
    (k2 : PySem.W.keepIn K (.ref f2) = true)
    (a3 : PySem.W.nsIn K mainGlobals "_law_sure" = some (some (.ref f3)))
    (l3 : K.lookup f3 = some ⟨oc3, od3, .func (PySem.W.fnOf "_law_sure" "_law_sure" (defArgs s__law_sure) (defBody s__law_sure) (defScope s__law_sure) .none kV3 dc3 pm3 an3 (.ref cc3) ct3), sl3⟩)
    (c3 : PySem.W.codeIn K (.ref cc3) "_law_sure" = true)
    (o3 : K.lookup cc3 = some ⟨xe3, xd3, .fields xv3, xs3⟩)
    (p3 : xv3[11]? = some (.ref tt3))
    (q_h3 : PySem.W.codeHdIn K cc3 tt3 = true)
    (q_n3 : K.lookup tt3 = none)
    (q_d0_3 : (tt0 == tt3) = false)
    (q_d1_3 : (tt1 == tt3) = false)
    (q_d2_3 : (tt2 == tt3) = false)
    (k3 : PySem.W.keepIn K (.ref f3) = true)
    (a4 : PySem.W.nsIn K mainGlobals "_law_stamper" = some (some (.ref f4)))
    (l4 : K.lookup f4 = some ⟨oc4, od4, .func (PySem.W.fnOf "_law_stamper" "_law_stamper" (defArgs s__law_stamper) (defBody s__law_stamper) (defScope s__law_stamper) .none kV4 dc4 pm4 an4 cd4 ct4), sl4⟩)
    (c4 : PySem.W.codeIn K cd4 "_law_stamper" = true)
    (k4 : PySem.W.keepIn K (.ref f4) = true)
    (a5 : PySem.W.nsIn K mainGlobals "_law_count_by" = some (some (.ref f5)))
    (l5 : K.lookup f5 = some ⟨oc5, od5, .func (PySem.W.fnOf "_law_count_by" "_law_count_by" (defArgs s__law_count_by) (defBody s__law_count_by) (defScope s__law_count_by) .none kV5 dc5 pm5 an5 cd5 ct5), sl5⟩)
    (c5 : PySem.W.codeIn K cd5 "_law_count_by" = true)
    (k5 : PySem.W.keepIn K (.ref f5) = true)
    (a6 : PySem.W.nsIn K mainGlobals "_law_half" = some (some (.ref f6)))
    (l6 : K.lookup f6 = some ⟨oc6, od6, .func (PySem.W.fnOf "_law_half" "_law_half" (defArgs s__law_half) (defBody s__law_half) (defScope s__law_half) .none kV6 dc6 pm6 an6 cd6 ct6), sl6⟩)
    (c6 : PySem.W.codeIn K cd6 "_law_half" = true)
    (k6 : PySem.W.keepIn K (.ref f6) = true)
    (a7 : PySem.W.nsIn K mainGlobals "_law_many" = some (some (.ref f7)))
    (l7 : K.lookup f7 = some ⟨oc7, od7, .func (PySem.W.fnOf "_law_many" "_law_many" (defArgs s__law_many) (defBody s__law_many) (defScope s__law_many) .none kV7 dc7 pm7 an7 cd7 ct7), sl7⟩)
    (c7 : PySem.W.codeIn K cd7 "_law_many" = true)
    (k7 : PySem.W.keepIn K (.ref f7) = true)
    (a8 : PySem.W.nsIn K mainGlobals "is_whole" = some (some (.ref f8)))
    (l8 : K.lookup f8 = some ⟨oc8, od8, .func (PySem.W.fnOf "is_whole" "is_whole" (defArgs s_is_whole) (defBody s_is_whole) (defScope s_is_whole) .none kV8 dc8 pm8 an8 cd8 ct8), sl8⟩)
    (c8 : PySem.W.codeIn K cd8 "is_whole" = true)
    (k8 : PySem.W.keepIn K (.ref f8) = true)
    (a9 : PySem.W.nsIn K mainGlobals "is_stamp" = some (some (.ref f9)))
    (l9 : K.lookup f9 = some ⟨oc9, od9, .func (PySem.W.fnOf "is_stamp" "is_stamp" (defArgs s_is_stamp) (defBody s_is_stamp) (defScope s_is_stamp) .none kV9 dc9 pm9 an9 cd9 ct9), sl9⟩)
    (c9 : PySem.W.codeIn K cd9 "is_stamp" = true)
    (k9 : PySem.W.keepIn K (.ref f9) = true)
    (a10 : PySem.W.nsIn K mainGlobals "is_term" = some (some (.ref f10)))
    (l10 : K.lookup f10 = some ⟨oc10, od10, .func (PySem.W.fnOf "is_term" "is_term" (defArgs s_is_term) (defBody s_is_term) (defScope s_is_term) .none kV10 dc10 pm10 an10 cd10 ct10), sl10⟩)
    (c10 : PySem.W.codeIn K cd10 "is_term" = true)
    (k10 : PySem.W.keepIn K (.ref f10) = true)
    (a11 : PySem.W.nsIn K mainGlobals "part_written" = some (some (.ref f11)))
    (l11 : K.lookup f11 = some ⟨oc11, od11, .func (PySem.W.fnOf "part_written" "part_written" (defArgs s_part_written) (defBody s_part_written) (defScope s_part_written) .none kV11 dc11 pm11 an11 cd11 ct11), sl11⟩)
    (c11 : PySem.W.codeIn K cd11 "part_written" = true)
    (k11 : PySem.W.keepIn K (.ref f11) = true)
    (a12 : PySem.W.nsIn K mainGlobals "written" = some (some (.ref f12)))
    (l12 : K.lookup f12 = some ⟨oc12, od12, .func (PySem.W.fnOf "written" "written" (defArgs s_written) (defBody s_written) (defScope s_written) .none kV12 dc12 pm12 an12 cd12 ct12), sl12⟩)
    (c12 : PySem.W.codeIn K cd12 "written" = true)
    (k12 : PySem.W.keepIn K (.ref f12) = true)
    (a13 : PySem.W.nsIn K mainGlobals "_law_tops" = some (some (.ref f13)))
    (l13 : K.lookup f13 = some ⟨oc13, od13, .func (PySem.W.fnOf "_law_tops" "_law_tops" (defArgs s__law_tops) (defBody s__law_tops) (defScope s__law_tops) .none kV13 dc13 pm13 an13 cd13 ct13), sl13⟩)
    (c13 : PySem.W.codeIn K cd13 "_law_tops" = true)
    (k13 : PySem.W.keepIn K (.ref f13) = true)
    (a14 : PySem.W.nsIn K mainGlobals "_law_rows_of" = some (some (.ref f14)))
    (l14 : K.lookup f14 = some ⟨oc14, od14, .func (PySem.W.fnOf "_law_rows_of" "_law_rows_of" (defArgs s__law_rows_of) (defBody s__law_rows_of) (defScope s__law_rows_of) .none kV14 dc14 pm14 an14 cd14 ct14), sl14⟩)
    (c14 : PySem.W.codeIn K cd14 "_law_rows_of" = true)
    (k14 : PySem.W.keepIn K (.ref f14) = true)
    (a15 : PySem.W.nsIn K mainGlobals "is_marks" = some (some (.ref f15)))
    (l15 : K.lookup f15 = some ⟨oc15, od15, .func (PySem.W.fnOf "is_marks" "is_marks" (defArgs s_is_marks) (defBody s_is_marks) (defScope s_is_marks) .none kV15 dc15 pm15 an15 cd15 ct15), sl15⟩)
    (c15 : PySem.W.codeIn K cd15 "is_marks" = true)
    (k15 : PySem.W.keepIn K (.ref f15) = true)
    (a16 : PySem.W.nsIn K mainGlobals "half" = some (some (.ref f16)))
    (l16 : K.lookup f16 = some ⟨oc16, od16, .func (PySem.W.fnOf "half" "half" (defArgs s_half) (defBody s_half) (defScope s_half) .none kV16 dc16 pm16 an16 cd16 ct16), sl16⟩)
    (c16 : PySem.W.codeIn K cd16 "half" = true)
    (k16 : PySem.W.keepIn K (.ref f16) = true)
    (a17 : PySem.W.nsIn K mainGlobals "joined" = some (some (.ref f17)))
    (l17 : K.lookup f17 = some ⟨oc17, od17, .func (PySem.W.fnOf "joined" "joined" (defArgs s_joined) (defBody s_joined) (defScope s_joined) .none kV17 dc17 pm17 an17 cd17 ct17), sl17⟩)
    (c17 : PySem.W.codeIn K cd17 "joined" = true)
    (k17 : PySem.W.keepIn K (.ref f17) = true)
    (a18 : PySem.W.nsIn K mainGlobals "is_below" = some (some (.ref f18)))
    (l18 : K.lookup f18 = some ⟨oc18, od18, .func (PySem.W.fnOf "is_below" "is_below" (defArgs s_is_below) (defBody s_is_below) (defScope s_is_below) .none kV18 dc18 pm18 an18 cd18 ct18), sl18⟩)
    (c18 : PySem.W.codeIn K cd18 "is_below" = true)
    (k18 : PySem.W.keepIn K (.ref f18) = true)
    (a19 : PySem.W.nsIn K mainGlobals "how_many" = some (some (.ref f19)))
    (l19 : K.lookup f19 = some ⟨oc19, od19, .func (PySem.W.fnOf "how_many" "how_many" (defArgs s_how_many) (defBody s_how_many) (defScope s_how_many) .none kV19 dc19 pm19 an19 cd19 ct19), sl19⟩)
    (c19 : PySem.W.codeIn K cd19 "how_many" = true)
    (k19 : PySem.W.keepIn K (.ref f19) = true)
    (a20 : PySem.W.nsIn K mainGlobals "growth_terms" = some (some (.ref f20)))
    (l20 : K.lookup f20 = some ⟨oc20, od20, .func (PySem.W.fnOf "growth_terms" "growth_terms" (defArgs s_growth_terms) (defBody s_growth_terms) (defScope s_growth_terms) .none kV20 dc20 pm20 an20 cd20 ct20), sl20⟩)
    (c20 : PySem.W.codeIn K cd20 "growth_terms" = true)
    (k20 : PySem.W.keepIn K (.ref f20) = true)
    (a21 : PySem.W.nsIn K mainGlobals "_law_cell_at" = some (some (.ref f21)))
    (l21 : K.lookup f21 = some ⟨oc21, od21, .func (PySem.W.fnOf "_law_cell_at" "_law_cell_at" (defArgs s__law_cell_at) (defBody s__law_cell_at) (defScope s__law_cell_at) .none kV21 dc21 pm21 an21 cd21 ct21), sl21⟩)
    (c21 : PySem.W.codeIn K cd21 "_law_cell_at" = true)
    (k21 : PySem.W.keepIn K (.ref f21) = true)
    (a22 : PySem.W.nsIn K mainGlobals "_law_first" = some (some (.ref f22)))
    (l22 : K.lookup f22 = some ⟨oc22, od22, .func (PySem.W.fnOf "_law_first" "_law_first" (defArgs s__law_first) (defBody s__law_first) (defScope s__law_first) .none kV22 dc22 pm22 an22 cd22 ct22), sl22⟩)
    (c22 : PySem.W.codeIn K cd22 "_law_first" = true)
    (k22 : PySem.W.keepIn K (.ref f22) = true)
    (a23 : PySem.W.nsIn K mainGlobals "_law_is" = some (some (.ref f23)))
    (l23 : K.lookup f23 = some ⟨oc23, od23, .func (PySem.W.fnOf "_law_is" "_law_is" (defArgs s__law_is) (defBody s__law_is) (defScope s__law_is) .none kV23 dc23 pm23 an23 cd23 ct23), sl23⟩)
    (c23 : PySem.W.codeIn K cd23 "_law_is" = true)
    (k23 : PySem.W.keepIn K (.ref f23) = true)
    (a24 : PySem.W.nsIn K mainGlobals "_law_no_count" = some (some (.ref f24)))
    (l24 : K.lookup f24 = some ⟨oc24, od24, .func (PySem.W.fnOf "_law_no_count" "_law_no_count" (defArgs s__law_no_count) (defBody s__law_no_count) (defScope s__law_no_count) .none kV24 dc24 pm24 an24 cd24 ct24), sl24⟩)
    (c24 : PySem.W.codeIn K cd24 "_law_no_count" = true)
    (k24 : PySem.W.keepIn K (.ref f24) = true)
    (a25 : PySem.W.nsIn K mainGlobals "_law_no_elder" = some (some (.ref f25)))
    (l25 : K.lookup f25 = some ⟨oc25, od25, .func (PySem.W.fnOf "_law_no_elder" "_law_no_elder" (defArgs s__law_no_elder) (defBody s__law_no_elder) (defScope s__law_no_elder) .none kV25 dc25 pm25 an25 cd25 ct25), sl25⟩)
    (c25 : PySem.W.codeIn K cd25 "_law_no_elder" = true)
    (k25 : PySem.W.keepIn K (.ref f25) = true)
    (a26 : PySem.W.nsIn K mainGlobals "_law_no_stamp" = some (some (.ref f26)))
    (l26 : K.lookup f26 = some ⟨oc26, od26, .func (PySem.W.fnOf "_law_no_stamp" "_law_no_stamp" (defArgs s__law_no_stamp) (defBody s__law_no_stamp) (defScope s__law_no_stamp) .none kV26 dc26 pm26 an26 cd26 ct26), sl26⟩)
    (c26 : PySem.W.codeIn K cd26 "_law_no_stamp" = true)
    (k26 : PySem.W.keepIn K (.ref f26) = true)
    (a27 : PySem.W.nsIn K mainGlobals "_law_no_paper" = some (some (.ref f27)))
    (l27 : K.lookup f27 = some ⟨oc27, od27, .func (PySem.W.fnOf "_law_no_paper" "_law_no_paper" (defArgs s__law_no_paper) (defBody s__law_no_paper) (defScope s__law_no_paper) .none kV27 dc27 pm27 an27 cd27 ct27), sl27⟩)
    (c27 : PySem.W.codeIn K cd27 "_law_no_paper" = true)
    (k27 : PySem.W.keepIn K (.ref f27) = true)
    (a28 : PySem.W.nsIn K mainGlobals "_law_no_head" = some (some (.ref f28)))
    (l28 : K.lookup f28 = some ⟨oc28, od28, .func (PySem.W.fnOf "_law_no_head" "_law_no_head" (defArgs s__law_no_head) (defBody s__law_no_head) (defScope s__law_no_head) .none kV28 dc28 pm28 an28 cd28 ct28), sl28⟩)
    (c28 : PySem.W.codeIn K cd28 "_law_no_head" = true)
    (k28 : PySem.W.keepIn K (.ref f28) = true)
    (g_Broken : PySem.W.nsIn K mainGlobals "Broken" = some (some (.ref kk0)))
    (a29 : PySem.W.findIn K (.ref kk0) "__init__" = some (some (.ref f29)))
    (fn29 : PySem.W.isFn K (.ref f29) = true)
    (l29 : K.lookup f29 = some ⟨oc29, od29, .func (PySem.W.fnOf "__init__" "Broken.__init__" (defArgs s_Broken___init__) (defBody s_Broken___init__) (defScope s_Broken___init__) .none kV29 dc29 pm29 an29 cd29 ct29), sl29⟩)
    (c29 : PySem.W.codeIn K cd29 "Broken.__init__" = true)
    (k29 : PySem.W.keepIn K (.ref f29) = true)
    (a30 : PySem.W.nsIn K mainGlobals "is_head" = some (some (.ref f30)))
    (l30 : K.lookup f30 = some ⟨oc30, od30, .func (PySem.W.fnOf "is_head" "is_head" (defArgs s_is_head) (defBody s_is_head) (defScope s_is_head) .none kV30 dc30 pm30 an30 cd30 ct30), sl30⟩)
    (c30 : PySem.W.codeIn K cd30 "is_head" = true)
    (k30 : PySem.W.keepIn K (.ref f30) = true)
    (a31 : PySem.W.nsIn K mainGlobals "growth_answer" = some (some (.ref f31)))
    (l31 : K.lookup f31 = some ⟨oc31, od31, .func (PySem.W.fnOf "growth_answer" "growth_answer" (defArgs s_growth_answer) (defBody s_growth_answer) (defScope s_growth_answer) .none kV31 dc31 pm31 an31 cd31 ct31), sl31⟩)
    (c31 : PySem.W.codeIn K cd31 "growth_answer" = true)
    (k31 : PySem.W.keepIn K (.ref f31) = true)
    (a32 : PySem.W.nsIn K mainGlobals "_law_caught" = some (some (.ref f32)))
    (l32 : K.lookup f32 = some ⟨oc32, od32, .func (PySem.W.fnOf "_law_caught" "_law_caught" (defArgs s__law_caught) (defBody s__law_caught) (defScope s__law_caught) .none kV32 dc32 pm32 an32 cd32 ct32), sl32⟩)
    (c32 : PySem.W.codeIn K cd32 "_law_caught" = true)
    (k32 : PySem.W.keepIn K (.ref f32) = true)
    (a33 : PySem.W.nsIn K mainGlobals "_law_text_by" = some (some (.ref f33)))
    (l33 : K.lookup f33 = some ⟨oc33, od33, .func (PySem.W.fnOf "_law_text_by" "_law_text_by" (defArgs s__law_text_by) (defBody s__law_text_by) (defScope s__law_text_by) .none kV33 dc33 pm33 an33 cd33 ct33), sl33⟩)
    (c33 : PySem.W.codeIn K cd33 "_law_text_by" = true)
    (k33 : PySem.W.keepIn K (.ref f33) = true)
    (a34 : PySem.W.nsIn K mainGlobals "_law_stamp_by" = some (some (.ref f34)))
    (l34 : K.lookup f34 = some ⟨oc34, od34, .func (PySem.W.fnOf "_law_stamp_by" "_law_stamp_by" (defArgs s__law_stamp_by) (defBody s__law_stamp_by) (defScope s__law_stamp_by) .none kV34 dc34 pm34 an34 cd34 ct34), sl34⟩)
    (c34 : PySem.W.codeIn K cd34 "_law_stamp_by" = true)
    (k34 : PySem.W.keepIn K (.ref f34) = true)
    (a35 : PySem.W.nsIn K mainGlobals "_law_other" = some (some (.ref f35)))
    (l35 : K.lookup f35 = some ⟨oc35, od35, .func (PySem.W.fnOf "_law_other" "_law_other" (defArgs s__law_other) (defBody s__law_other) (defScope s__law_other) .none kV35 dc35 pm35 an35 cd35 ct35), sl35⟩)
    (c35 : PySem.W.codeIn K cd35 "_law_other" = true)
    (k35 : PySem.W.keepIn K (.ref f35) = true)
    (a36 : PySem.W.nsIn K mainGlobals "_law_refused" = some (some (.ref f36)))
    (l36 : K.lookup f36 = some ⟨oc36, od36, .func (PySem.W.fnOf "_law_refused" "_law_refused" (defArgs s__law_refused) (defBody s__law_refused) (defScope s__law_refused) .none kV36 dc36 pm36 an36 cd36 ct36), sl36⟩)
    (c36 : PySem.W.codeIn K cd36 "_law_refused" = true)
    (k36 : PySem.W.keepIn K (.ref f36) = true)
    (g_Row : PySem.W.nsIn K mainGlobals "Row" = some (some (.ref kk6)))
    (a37 : PySem.W.findIn K (.ref kk6) "__init__" = some (some (.ref f37)))
    (fn37 : PySem.W.isFn K (.ref f37) = true)
    (l37 : K.lookup f37 = some ⟨oc37, od37, .func (PySem.W.fnOf "__init__" "Row.__init__" (defArgs s_Row___init__) (defBody s_Row___init__) (defScope s_Row___init__) .none kV37 dc37 pm37 an37 cd37 ct37), sl37⟩)
    (c37 : PySem.W.codeIn K cd37 "Row.__init__" = true)
    (k37 : PySem.W.keepIn K (.ref f37) = true)
    (a38 : PySem.W.nsIn K mainGlobals "top_of" = some (some (.ref f38)))
    (l38 : K.lookup f38 = some ⟨oc38, od38, .func (PySem.W.fnOf "top_of" "top_of" (defArgs s_top_of) (defBody s_top_of) (defScope s_top_of) .none kV38 dc38 pm38 an38 cd38 ct38), sl38⟩)
    (c38 : PySem.W.codeIn K cd38 "top_of" = true)
    (k38 : PySem.W.keepIn K (.ref f38) = true)
    (a39 : PySem.W.findIn K (.ref kk6) "first" = some (some (.ref f39)))
    (fn39 : PySem.W.isFn K (.ref f39) = true)
    (l39 : K.lookup f39 = some ⟨oc39, od39, .func (PySem.W.fnOf "first" "Row.first" (defArgs s_Row_first) (defBody s_Row_first) (defScope s_Row_first) .none kV39 dc39 pm39 an39 cd39 ct39), sl39⟩)
    (c39 : PySem.W.codeIn K cd39 "Row.first" = true)
    (k39 : PySem.W.keepIn K (.ref f39) = true)
    (a40 : PySem.W.findIn K (.ref kk6) "mark_at" = some (some (.ref f40)))
    (fn40 : PySem.W.isFn K (.ref f40) = true)
    (l40 : K.lookup f40 = some ⟨oc40, od40, .func (PySem.W.fnOf "mark_at" "Row.mark_at" (defArgs s_Row_mark_at) (defBody s_Row_mark_at) (defScope s_Row_mark_at) .none kV40 dc40 pm40 an40 cd40 ct40), sl40⟩)
    (c40 : PySem.W.codeIn K cd40 "Row.mark_at" = true)
    (k40 : PySem.W.keepIn K (.ref f40) = true)
    (a41 : PySem.W.findIn K (.ref kk6) "add" = some (some (.ref f41)))
    (fn41 : PySem.W.isFn K (.ref f41) = true)
    (l41 : K.lookup f41 = some ⟨oc41, od41, .func (PySem.W.fnOf "add" "Row.add" (defArgs s_Row_add) (defBody s_Row_add) (defScope s_Row_add) .none kV41 dc41 pm41 an41 cd41 ct41), sl41⟩)
    (c41 : PySem.W.codeIn K cd41 "Row.add" = true)
    (k41 : PySem.W.keepIn K (.ref f41) = true)
    (a42 : PySem.W.nsIn K mainGlobals "_law_near" = some (some (.ref f42)))
    (l42 : K.lookup f42 = some ⟨oc42, od42, .func (PySem.W.fnOf "_law_near" "_law_near" (defArgs s__law_near) (defBody s__law_near) (defScope s__law_near) .none kV42 dc42 pm42 an42 cd42 ct42), sl42⟩)
    (c42 : PySem.W.codeIn K cd42 "_law_near" = true)
    (k42 : PySem.W.keepIn K (.ref f42) = true)
    (a43 : PySem.W.nsIn K mainGlobals "_law_whole" = some (some (.ref f43)))
    (l43 : K.lookup f43 = some ⟨oc43, od43, .func (PySem.W.fnOf "_law_whole" "_law_whole" (defArgs s__law_whole) (defBody s__law_whole) (defScope s__law_whole) .none kV43 dc43 pm43 an43 cd43 ct43), sl43⟩)
    (c43 : PySem.W.codeIn K cd43 "_law_whole" = true)
    (k43 : PySem.W.keepIn K (.ref f43) = true)
    (a44 : PySem.W.nsIn K mainGlobals "_law_within" = some (some (.ref f44)))
    (l44 : K.lookup f44 = some ⟨oc44, od44, .func (PySem.W.fnOf "_law_within" "_law_within" (defArgs s__law_within) (defBody s__law_within) (defScope s__law_within) .none kV44 dc44 pm44 an44 cd44 ct44), sl44⟩)
    (c44 : PySem.W.codeIn K cd44 "_law_within" = true)
    (k44 : PySem.W.keepIn K (.ref f44) = true)
    (a45 : PySem.W.findIn K (.ref kk6) "size" = some (some (.ref f45)))
    (fn45 : PySem.W.isFn K (.ref f45) = true)
    (l45 : K.lookup f45 = some ⟨oc45, od45, .func (PySem.W.fnOf "size" "Row.size" (defArgs s_Row_size) (defBody s_Row_size) (defScope s_Row_size) .none kV45 dc45 pm45 an45 cd45 ct45), sl45⟩)
    (c45 : PySem.W.codeIn K cd45 "Row.size" = true)
    (k45 : PySem.W.keepIn K (.ref f45) = true)
    (a46 : PySem.W.nsIn K mainGlobals "grown" = some (some (.ref f46)))
    (l46 : K.lookup f46 = some ⟨oc46, od46, .func (PySem.W.fnOf "grown" "grown" (defArgs s_grown) (defBody s_grown) (defScope s_grown) .none kV46 dc46 pm46 an46 cd46 ct46), sl46⟩)
    (c46 : PySem.W.codeIn K cd46 "grown" = true)
    (k46 : PySem.W.keepIn K (.ref f46) = true)
    (a47 : PySem.W.findIn K (.ref kk6) "growth_paper" = some (some (.ref f47)))
    (fn47 : PySem.W.isFn K (.ref f47) = true)
    (l47 : K.lookup f47 = some ⟨oc47, od47, .func (PySem.W.fnOf "growth_paper" "Row.growth_paper" (defArgs s_Row_growth_paper) (defBody s_Row_growth_paper) (defScope s_Row_growth_paper) .none kV47 dc47 pm47 an47 cd47 ct47), sl47⟩)
    (c47 : PySem.W.codeIn K cd47 "Row.growth_paper" = true)
    (k47 : PySem.W.keepIn K (.ref f47) = true)
    (a48 : PySem.W.nsIn K mainGlobals "_law_asked" = some (some (.ref f48)))
    (l48 : K.lookup f48 = some ⟨oc48, od48, .func (PySem.W.fnOf "_law_asked" "_law_asked" (defArgs s__law_asked) (defBody s__law_asked) (defScope s__law_asked) .none kV48 dc48 pm48 an48 cd48 ct48), sl48⟩)
    (c48 : PySem.W.codeIn K cd48 "_law_asked" = true)
    (k48 : PySem.W.keepIn K (.ref f48) = true)
    (a49 : PySem.W.nsIn K mainGlobals "_law_rows" = some (some (.ref f49)))
    (l49 : K.lookup f49 = some ⟨oc49, od49, .func (PySem.W.fnOf "_law_rows" "_law_rows" (defArgs s__law_rows) (defBody s__law_rows) (defScope s__law_rows) .none kV49 dc49 pm49 an49 cd49 ct49), sl49⟩)
    (c49 : PySem.W.codeIn K cd49 "_law_rows" = true)
    (k49 : PySem.W.keepIn K (.ref f49) = true)
    (a50 : PySem.W.nsIn K mainGlobals "law" = some (some (.ref f50)))
    (l50 : K.lookup f50 = some ⟨oc50, od50, .func (PySem.W.fnOf "law" "law" (defArgs s_law) (defBody s_law) (defScope s_law) .none kV50 dc50 pm50 an50 cd50 ct50), sl50⟩)
    (c50 : PySem.W.codeIn K cd50 "law" = true)
    (k50 : PySem.W.keepIn K (.ref f50) = true)
    (z_ValueError : PySem.W.nsIn K mainGlobals "ValueError" = some none)
    (z_bool : PySem.W.nsIn K mainGlobals "bool" = some none)
    (z_int : PySem.W.nsIn K mainGlobals "int" = some none)
    (z_isinstance : PySem.W.nsIn K mainGlobals "isinstance" = some none)
    (z_len : PySem.W.nsIn K mainGlobals "len" = some none)
    (z_list : PySem.W.nsIn K mainGlobals "list" = some none)
    (z_max : PySem.W.nsIn K mainGlobals "max" = some none)
    (z_min : PySem.W.nsIn K mainGlobals "min" = some none)
    (z_range : PySem.W.nsIn K mainGlobals "range" = some none)
    (z_str : PySem.W.nsIn K mainGlobals "str" = some none)
    (z_tuple : PySem.W.nsIn K mainGlobals "tuple" = some none)
    (q_x_Broken : oexB K kk0 = true)
    (x1_Broken : PySem.W.findIn K (.ref kk0) "due" = some none)
    (x2_Broken : PySem.W.findIn K (.ref kk0) "came" = some none)
    (xi_Broken : PySem.W.findIn K (.ref kk0) "__init__" = some (some (.ref f29)))
    (xt_Broken : PySem.W.typeIn K (.ref f29) = some (.type "function"))
    (ex_Broken : excB K kk0 = true)
    (g_NoHead : PySem.W.nsIn K mainGlobals "NoHead" = some (some (.ref kk1)))
    (q_NoHead : PySem.W.excIn K kk1 [.type "ValueError", .type "Exception", .type "BaseException", .type "object"] "ValueError.__new__" = true)
    (kp_NoHead : PySem.W.keepIn K (.ref kk1) = true)
    (sb_NoHead : PySem.W.subIn K (.ref kk1) (.type "BaseException") = some true)
    (ty_NoHead : PySem.W.typeIn K (.ref kk1) = some (.type "type"))
    (ex_NoHead : excB K kk1 = true)
    (g_NoPaper : PySem.W.nsIn K mainGlobals "NoPaper" = some (some (.ref kk2)))
    (q_NoPaper : PySem.W.excIn K kk2 [.type "ValueError", .type "Exception", .type "BaseException", .type "object"] "ValueError.__new__" = true)
    (kp_NoPaper : PySem.W.keepIn K (.ref kk2) = true)
    (sb_NoPaper : PySem.W.subIn K (.ref kk2) (.type "BaseException") = some true)
    (ty_NoPaper : PySem.W.typeIn K (.ref kk2) = some (.type "type"))
    (ex_NoPaper : excB K kk2 = true)
    (g_NoPlace : PySem.W.nsIn K mainGlobals "NoPlace" = some (some (.ref kk3)))
    (q_NoPlace : PySem.W.excIn K kk3 [.type "ValueError", .type "Exception", .type "BaseException", .type "object"] "ValueError.__new__" = true)
    (kp_NoPlace : PySem.W.keepIn K (.ref kk3) = true)
    (sb_NoPlace : PySem.W.subIn K (.ref kk3) (.type "BaseException") = some true)
    (ty_NoPlace : PySem.W.typeIn K (.ref kk3) = some (.type "type"))
    (ex_NoPlace : excB K kk3 = true)
    (g_NoStamp : PySem.W.nsIn K mainGlobals "NoStamp" = some (some (.ref kk4)))
    (q_NoStamp : PySem.W.excIn K kk4 [.type "ValueError", .type "Exception", .type "BaseException", .type "object"] "ValueError.__new__" = true)
    (kp_NoStamp : PySem.W.keepIn K (.ref kk4) = true)
    (sb_NoStamp : PySem.W.subIn K (.ref kk4) (.type "BaseException") = some true)
    (ty_NoStamp : PySem.W.typeIn K (.ref kk4) = some (.type "type"))
    (ex_NoStamp : excB K kk4 = true)
    (g_NoTerm : PySem.W.nsIn K mainGlobals "NoTerm" = some (some (.ref kk5)))
    (q_NoTerm : PySem.W.excIn K kk5 [.type "ValueError", .type "Exception", .type "BaseException", .type "object"] "ValueError.__new__" = true)
    (kp_NoTerm : PySem.W.keepIn K (.ref kk5) = true)
    (sb_NoTerm : PySem.W.subIn K (.ref kk5) (.type "BaseException") = some true)
    (ty_NoTerm : PySem.W.typeIn K (.ref kk5) = some (.type "type"))
    (ex_NoTerm : excB K kk5 = true)
    (pg_Row : PySem.W.plainGet K kk6 Str.empty = true)
    (hd_Row : PySem.W.hasDictIn K kk6 = true)
    (po_Row : PySem.W.plainOver K kk6 = true)
    (sa_Row : PySem.W.findIn K (.ref kk6) "__setattr__" = some (some (.builtin "object.__setattr__")))
    (mk_Row : PySem.W.makesIn K kk6 = true)
    (kc_Row : PySem.W.keepIn K (.ref kk6) = true)
    (in_Row : PySem.W.findIn K (.ref kk6) "__init__" = some (some (.ref f37)))
    (if_Row : PySem.W.isFn K (.ref f37) = true)
    (g_StampError : PySem.W.nsIn K mainGlobals "StampError" = some (some (.ref kk7)))
    (q_j_StampError : iniB K kk7 = true)
    (e_Broken_Broken : PySem.W.exmOne K (.ref kk0) (.ref kk0) = some true)
    (i_Broken_Broken : PySem.W.kitOne K (.ref kk0) (.ref kk0) = some true)
    (e_Broken_NoHead : PySem.W.exmOne K (.ref kk0) (.ref kk1) = some false)
    (i_Broken_NoHead : PySem.W.kitOne K (.ref kk0) (.ref kk1) = some false)
    (e_Broken_NoPaper : PySem.W.exmOne K (.ref kk0) (.ref kk2) = some false)
    (i_Broken_NoPaper : PySem.W.kitOne K (.ref kk0) (.ref kk2) = some false)
    (e_Broken_NoPlace : PySem.W.exmOne K (.ref kk0) (.ref kk3) = some false)
    (i_Broken_NoPlace : PySem.W.kitOne K (.ref kk0) (.ref kk3) = some false)
    (e_Broken_NoStamp : PySem.W.exmOne K (.ref kk0) (.ref kk4) = some false)
    (i_Broken_NoStamp : PySem.W.kitOne K (.ref kk0) (.ref kk4) = some false)
    (e_Broken_StampError : PySem.W.exmOne K (.ref kk0) (.ref kk7) = some true)
    (i_Broken_StampError : PySem.W.kitOne K (.ref kk0) (.ref kk7) = some true)
    (e_NoHead_Broken : PySem.W.exmOne K (.ref kk1) (.ref kk0) = some false)
    (i_NoHead_Broken : PySem.W.kitOne K (.ref kk1) (.ref kk0) = some false)
    (e_NoHead_NoHead : PySem.W.exmOne K (.ref kk1) (.ref kk1) = some true)
    (i_NoHead_NoHead : PySem.W.kitOne K (.ref kk1) (.ref kk1) = some true)
    (e_NoHead_NoPaper : PySem.W.exmOne K (.ref kk1) (.ref kk2) = some false)
    (i_NoHead_NoPaper : PySem.W.kitOne K (.ref kk1) (.ref kk2) = some false)
    (e_NoHead_NoPlace : PySem.W.exmOne K (.ref kk1) (.ref kk3) = some false)
    (i_NoHead_NoPlace : PySem.W.kitOne K (.ref kk1) (.ref kk3) = some false)
    (e_NoHead_NoStamp : PySem.W.exmOne K (.ref kk1) (.ref kk4) = some false)
    (i_NoHead_NoStamp : PySem.W.kitOne K (.ref kk1) (.ref kk4) = some false)
    (e_NoHead_StampError : PySem.W.exmOne K (.ref kk1) (.ref kk7) = some true)
    (i_NoHead_StampError : PySem.W.kitOne K (.ref kk1) (.ref kk7) = some true)
    (e_NoPaper_Broken : PySem.W.exmOne K (.ref kk2) (.ref kk0) = some false)
    (i_NoPaper_Broken : PySem.W.kitOne K (.ref kk2) (.ref kk0) = some false)
    (e_NoPaper_NoHead : PySem.W.exmOne K (.ref kk2) (.ref kk1) = some false)
    (i_NoPaper_NoHead : PySem.W.kitOne K (.ref kk2) (.ref kk1) = some false)
    (e_NoPaper_NoPaper : PySem.W.exmOne K (.ref kk2) (.ref kk2) = some true)
    (i_NoPaper_NoPaper : PySem.W.kitOne K (.ref kk2) (.ref kk2) = some true)
    (e_NoPaper_NoPlace : PySem.W.exmOne K (.ref kk2) (.ref kk3) = some false)
    (i_NoPaper_NoPlace : PySem.W.kitOne K (.ref kk2) (.ref kk3) = some false)
    (e_NoPaper_NoStamp : PySem.W.exmOne K (.ref kk2) (.ref kk4) = some false)
    (i_NoPaper_NoStamp : PySem.W.kitOne K (.ref kk2) (.ref kk4) = some false)
    (e_NoPaper_StampError : PySem.W.exmOne K (.ref kk2) (.ref kk7) = some true)
    (i_NoPaper_StampError : PySem.W.kitOne K (.ref kk2) (.ref kk7) = some true)
    (e_NoPlace_Broken : PySem.W.exmOne K (.ref kk3) (.ref kk0) = some false)
    (i_NoPlace_Broken : PySem.W.kitOne K (.ref kk3) (.ref kk0) = some false)
    (e_NoPlace_NoHead : PySem.W.exmOne K (.ref kk3) (.ref kk1) = some false)
    (i_NoPlace_NoHead : PySem.W.kitOne K (.ref kk3) (.ref kk1) = some false)
    (e_NoPlace_NoPaper : PySem.W.exmOne K (.ref kk3) (.ref kk2) = some false)
    (i_NoPlace_NoPaper : PySem.W.kitOne K (.ref kk3) (.ref kk2) = some false)
    (e_NoPlace_NoPlace : PySem.W.exmOne K (.ref kk3) (.ref kk3) = some true)
    (i_NoPlace_NoPlace : PySem.W.kitOne K (.ref kk3) (.ref kk3) = some true)
    (e_NoPlace_NoStamp : PySem.W.exmOne K (.ref kk3) (.ref kk4) = some false)
    (i_NoPlace_NoStamp : PySem.W.kitOne K (.ref kk3) (.ref kk4) = some false)
    (e_NoPlace_StampError : PySem.W.exmOne K (.ref kk3) (.ref kk7) = some true)
    (i_NoPlace_StampError : PySem.W.kitOne K (.ref kk3) (.ref kk7) = some true)
    (e_NoStamp_Broken : PySem.W.exmOne K (.ref kk4) (.ref kk0) = some false)
    (i_NoStamp_Broken : PySem.W.kitOne K (.ref kk4) (.ref kk0) = some false)
    (e_NoStamp_NoHead : PySem.W.exmOne K (.ref kk4) (.ref kk1) = some false)
    (i_NoStamp_NoHead : PySem.W.kitOne K (.ref kk4) (.ref kk1) = some false)
    (e_NoStamp_NoPaper : PySem.W.exmOne K (.ref kk4) (.ref kk2) = some false)
    (i_NoStamp_NoPaper : PySem.W.kitOne K (.ref kk4) (.ref kk2) = some false)
    (e_NoStamp_NoPlace : PySem.W.exmOne K (.ref kk4) (.ref kk3) = some false)
    (i_NoStamp_NoPlace : PySem.W.kitOne K (.ref kk4) (.ref kk3) = some false)
    (e_NoStamp_NoStamp : PySem.W.exmOne K (.ref kk4) (.ref kk4) = some true)
    (i_NoStamp_NoStamp : PySem.W.kitOne K (.ref kk4) (.ref kk4) = some true)
    (e_NoStamp_StampError : PySem.W.exmOne K (.ref kk4) (.ref kk7) = some true)
    (i_NoStamp_StampError : PySem.W.kitOne K (.ref kk4) (.ref kk7) = some true)
    (e_NoTerm_Broken : PySem.W.exmOne K (.ref kk5) (.ref kk0) = some false)
    (i_NoTerm_Broken : PySem.W.kitOne K (.ref kk5) (.ref kk0) = some false)
    (e_NoTerm_NoHead : PySem.W.exmOne K (.ref kk5) (.ref kk1) = some false)
    (i_NoTerm_NoHead : PySem.W.kitOne K (.ref kk5) (.ref kk1) = some false)
    (e_NoTerm_NoPaper : PySem.W.exmOne K (.ref kk5) (.ref kk2) = some false)
    (i_NoTerm_NoPaper : PySem.W.kitOne K (.ref kk5) (.ref kk2) = some false)
    (e_NoTerm_NoPlace : PySem.W.exmOne K (.ref kk5) (.ref kk3) = some false)
    (i_NoTerm_NoPlace : PySem.W.kitOne K (.ref kk5) (.ref kk3) = some false)
    (e_NoTerm_NoStamp : PySem.W.exmOne K (.ref kk5) (.ref kk4) = some false)
    (i_NoTerm_NoStamp : PySem.W.kitOne K (.ref kk5) (.ref kk4) = some false)
    (e_NoTerm_StampError : PySem.W.exmOne K (.ref kk5) (.ref kk7) = some true)
    (i_NoTerm_StampError : PySem.W.kitOne K (.ref kk5) (.ref kk7) = some true)
    (i_Broken_ValueError : PySem.W.kitOne K (.ref kk0) (.type "ValueError") = some true)
    (i_NoHead_ValueError : PySem.W.kitOne K (.ref kk1) (.type "ValueError") = some true)
    (i_NoPaper_ValueError : PySem.W.kitOne K (.ref kk2) (.type "ValueError") = some true)
    (i_NoPlace_ValueError : PySem.W.kitOne K (.ref kk3) (.type "ValueError") = some true)
    (i_NoStamp_ValueError : PySem.W.kitOne K (.ref kk4) (.type "ValueError") = some true)
    (i_NoTerm_ValueError : PySem.W.kitOne K (.ref kk5) (.type "ValueError") = some true)
    (m_Row_add : PySem.W.findIn K (.ref kk6) "add" = some (some (.ref f41)))
    (m_Row_first : PySem.W.findIn K (.ref kk6) "first" = some (some (.ref f39)))
    (m_Row_growth_paper : PySem.W.findIn K (.ref kk6) "growth_paper" = some (some (.ref f47)))
    (m_Row_mark_at : PySem.W.findIn K (.ref kk6) "mark_at" = some (some (.ref f40)))
    (m_Row_size : PySem.W.findIn K (.ref kk6) "size" = some (some (.ref f45)))
    (n_Row_entries : PySem.W.findIn K (.ref kk6) "entries" = some none)
    (n_Row_stamper : PySem.W.findIn K (.ref kk6) "stamper" = some none)
    : LamX.LawAtS l w K (L2.CX l.prog w) 151 63 "_law_script" mg fa h := by
  have e := hfa.symm.trans (PySem.W.mg_of X G a50)
  cases e
  have F0 := fun_mk (st := s__law_weak) l0 c0 k0
  have b0 := F0.binds (ps := ["_law_many_here"]) fun _ _ _ _ _ _ us hl => match us, hl with | [_], _ => rfl
  have F1 := fun_mk (st := s_writing) l1 c1 k1
  have b1 := F1.binds (ps := []) fun _ _ _ _ _ _ us hl => match us, hl with | [], _ => rfl
  have F2 := fun_mk (st := s_counting) l2 c2 k2
  have b2 := F2.binds (ps := []) fun _ _ _ _ _ _ us hl => match us, hl with | [], _ => rfl
  have F3 := fun_mk (st := s__law_sure) l3 c3 k3
  have b3 := F3.binds (ps := ["_law_step"]) fun _ _ _ _ _ _ us hl => match us, hl with | [_], _ => rfl
  have F4 := fun_mk (st := s__law_stamper) l4 c4 k4
  have b4 := F4.binds (ps := ["_law_cell"]) fun _ _ _ _ _ _ us hl => match us, hl with | [_], _ => rfl
  have F5 := fun_mk (st := s__law_count_by) l5 c5 k5
  have b5 := F5.binds (ps := ["_law_cell"]) fun _ _ _ _ _ _ us hl => match us, hl with | [_], _ => rfl
  have F6 := fun_mk (st := s__law_half) l6 c6 k6
  have b6 := F6.binds (ps := ["_law_many_here"]) fun _ _ _ _ _ _ us hl => match us, hl with | [_], _ => rfl
  have F7 := fun_mk (st := s__law_many) l7 c7 k7
  have b7 := F7.binds (ps := ["_law_count", "_law_elder"]) fun _ _ _ _ _ _ us hl => match us, hl with | [_, _], _ => rfl
  have F8 := fun_mk (st := s_is_whole) l8 c8 k8
  have b8 := F8.binds (ps := ["thing"]) fun _ _ _ _ _ _ us hl => match us, hl with | [_], _ => rfl
  have F9 := fun_mk (st := s_is_stamp) l9 c9 k9
  have b9 := F9.binds (ps := ["thing"]) fun _ _ _ _ _ _ us hl => match us, hl with | [_], _ => rfl
  have F10 := fun_mk (st := s_is_term) l10 c10 k10
  have b10 := F10.binds (ps := ["thing"]) fun _ _ _ _ _ _ us hl => match us, hl with | [_], _ => rfl
  have F11 := fun_mk (st := s_part_written) l11 c11 k11
  have b11 := F11.binds (ps := ["part"]) fun _ _ _ _ _ _ us hl => match us, hl with | [_], _ => rfl
  have F12 := fun_mk (st := s_written) l12 c12 k12
  have b12 := F12.binds (ps := ["term"]) fun _ _ _ _ _ _ us hl => match us, hl with | [_], _ => rfl
  have F13 := fun_mk (st := s__law_tops) l13 c13 k13
  have b13 := F13.binds (ps := ["_law_stamper_here", "_law_count", "_law_elder", "_law_marks"]) fun _ _ _ _ _ _ us hl => match us, hl with | [_, _, _, _], _ => rfl
  have F14 := fun_mk (st := s__law_rows_of) l14 c14 k14
  have b14 := F14.binds (ps := ["_law_stamper_here", "_law_count", "_law_elder", "_law_marks"]) fun _ _ _ _ _ _ us hl => match us, hl with | [_, _, _, _], _ => rfl
  have F15 := fun_mk (st := s_is_marks) l15 c15 k15
  have b15 := F15.binds (ps := ["thing", "many"]) fun _ _ _ _ _ _ us hl => match us, hl with | [_, _], _ => rfl
  have F16 := fun_mk (st := s_half) l16 c16 k16
  have b16 := F16.binds (ps := ["many"]) fun _ _ _ _ _ _ us hl => match us, hl with | [_], _ => rfl
  have F17 := fun_mk (st := s_joined) l17 c17 k17
  have b17 := F17.binds (ps := ["stamper", "count", "elder", "marks"]) fun _ _ _ _ _ _ us hl => match us, hl with | [_, _, _, _], _ => rfl
  have F18 := fun_mk (st := s_is_below) l18 c18 k18
  have b18 := F18.binds (ps := ["thing", "many"]) fun _ _ _ _ _ _ us hl => match us, hl with | [_, _], _ => rfl
  have F19 := fun_mk (st := s_how_many) l19 c19 k19
  have b19 := F19.binds (ps := ["count", "elder"]) fun _ _ _ _ _ _ us hl => match us, hl with | [_, _], _ => rfl
  have F20 := fun_mk (st := s_growth_terms) l20 c20 k20
  have b20 := F20.binds (ps := ["stamper", "count", "elder", "marks"]) fun _ _ _ _ _ _ us hl => match us, hl with | [_, _, _, _], _ => rfl
  have F21 := fun_mk (st := s__law_cell_at) l21 c21 k21
  have b21 := F21.binds (ps := ["_law_script", "_law_k"]) fun _ _ _ _ _ _ us hl => match us, hl with | [_, _], _ => rfl
  have F22 := fun_mk (st := s__law_first) l22 c22 k22
  have b22 := F22.binds (ps := ["_law_flags"]) fun _ _ _ _ _ _ us hl => match us, hl with | [_], _ => rfl
  have F23 := fun_mk (st := s__law_is) l23 c23 k23
  have b23 := F23.binds (ps := ["_law_caught_here", "_law_number"]) fun _ _ _ _ _ _ us hl => match us, hl with | [_, _], _ => rfl
  have F24 := fun_mk (st := s__law_no_count) l24 c24 k24
  have b24 := F24.binds (ps := ["_law_cell", "_law_count"]) fun _ _ _ _ _ _ us hl => match us, hl with | [_, _], _ => rfl
  have F25 := fun_mk (st := s__law_no_elder) l25 c25 k25
  have b25 := F25.binds (ps := ["_law_cell", "_law_count"]) fun _ _ _ _ _ _ us hl => match us, hl with | [_, _], _ => rfl
  have F26 := fun_mk (st := s__law_no_stamp) l26 c26 k26
  have b26 := F26.binds (ps := ["_law_cell"]) fun _ _ _ _ _ _ us hl => match us, hl with | [_], _ => rfl
  have F27 := fun_mk (st := s__law_no_paper) l27 c27 k27
  have b27 := F27.binds (ps := ["_law_cell", "_law_marks"]) fun _ _ _ _ _ _ us hl => match us, hl with | [_, _], _ => rfl
  have F28 := fun_mk (st := s__law_no_head) l28 c28 k28
  have b28 := F28.binds (ps := ["_law_cell", "_law_count", "_law_mark"]) fun _ _ _ _ _ _ us hl => match us, hl with | [_, _, _], _ => rfl
  have F29 := fun_mk (st := s_Broken___init__) l29 c29 k29
  have b29 := F29.binds (ps := ["self", "due", "came"]) fun _ _ _ _ _ _ us hl => match us, hl with | [_, _, _], _ => rfl
  have F30 := fun_mk (st := s_is_head) l30 c30 k30
  have b30 := F30.binds (ps := ["thing"]) fun _ _ _ _ _ _ us hl => match us, hl with | [_], _ => rfl
  have F31 := fun_mk (st := s_growth_answer) l31 c31 k31
  have b31 := F31.binds (ps := ["stamper", "head", "elder", "marks"]) fun _ _ _ _ _ _ us hl => match us, hl with | [_, _, _, _], _ => rfl
  have F32 := fun_mk (st := s__law_caught) l32 c32 k32
  have b32 := F32.binds (ps := ["_law_what", "_law_stamper_here", "_law_top", "_law_elder", "_law_marks"]) fun _ _ _ _ _ _ us hl => match us, hl with | [_, _, _, _, _], _ => rfl
  have F33 := fun_mk (st := s__law_text_by) l33 c33 k33
  have b33 := F33.binds (ps := ["_law_cell"]) fun _ _ _ _ _ _ us hl => match us, hl with | [_], _ => rfl
  have F34 := fun_mk (st := s__law_stamp_by) l34 c34 k34
  have b34 := F34.binds (ps := ["_law_cell"]) fun _ _ _ _ _ _ us hl => match us, hl with | [_], _ => rfl
  have F35 := fun_mk (st := s__law_other) l35 c35 k35
  have b35 := F35.binds (ps := ["_law_cell", "_law_mark"]) fun _ _ _ _ _ _ us hl => match us, hl with | [_, _], _ => rfl
  have F36 := fun_mk (st := s__law_refused) l36 c36 k36
  have b36 := F36.binds (ps := ["_law_stamper_here", "_law_script", "_law_count", "_law_elder", "_law_marks", "_law_mark"]) fun _ _ _ _ _ _ us hl => match us, hl with | [_, _, _, _, _, _], _ => rfl
  have F37 := fun_mk (st := s_Row___init__) l37 c37 k37
  have b37 := F37.binds (ps := ["self", "stamper"]) fun _ _ _ _ _ _ us hl => match us, hl with | [_, _], _ => rfl
  have F38 := fun_mk (st := s_top_of) l38 c38 k38
  have b38 := F38.binds (ps := ["stamper", "entries"]) fun _ _ _ _ _ _ us hl => match us, hl with | [_, _], _ => rfl
  have F39 := fun_mk (st := s_Row_first) l39 c39 k39
  have b39 := F39.binds (ps := ["self", "count"]) fun _ _ _ _ _ _ us hl => match us, hl with | [_, _], _ => rfl
  have F40 := fun_mk (st := s_Row_mark_at) l40 c40 k40
  have b40 := F40.binds (ps := ["self", "count"]) fun _ _ _ _ _ _ us hl => match us, hl with | [_, _], _ => rfl
  have F41 := fun_mk (st := s_Row_add) l41 c41 k41
  have b41 := F41.binds (ps := ["self", "entry"]) fun _ _ _ _ _ _ us hl => match us, hl with | [_, _], _ => rfl
  have F42 := fun_mk (st := s__law_near) l42 c42 k42
  have b42 := F42.binds (ps := ["_law_cell", "_law_size"]) fun _ _ _ _ _ _ us hl => match us, hl with | [_, _], _ => rfl
  have F43 := fun_mk (st := s__law_whole) l43 c43 k43
  have b43 := F43.binds (ps := ["_law_found"]) fun _ _ _ _ _ _ us hl => match us, hl with | [_], _ => rfl
  have F44 := fun_mk (st := s__law_within) l44 c44 k44
  have b44 := F44.binds (ps := ["_law_thing", "_law_many_here"]) fun _ _ _ _ _ _ us hl => match us, hl with | [_, _], _ => rfl
  have F45 := fun_mk (st := s_Row_size) l45 c45 k45
  have b45 := F45.binds (ps := ["self"]) fun _ _ _ _ _ _ us hl => match us, hl with | [_], _ => rfl
  have F46 := fun_mk (st := s_grown) l46 c46 k46
  have b46 := F46.binds (ps := ["stamper", "entries", "elder"]) fun _ _ _ _ _ _ us hl => match us, hl with | [_, _, _], _ => rfl
  have F47 := fun_mk (st := s_Row_growth_paper) l47 c47 k47
  have b47 := F47.binds (ps := ["self", "count", "elder"]) fun _ _ _ _ _ _ us hl => match us, hl with | [_, _, _], _ => rfl
  have F48 := fun_mk (st := s__law_asked) l48 c48 k48
  have b48 := F48.binds (ps := ["_law_what", "_law_row", "_law_one", "_law_other_here"]) fun _ _ _ _ _ _ us hl => match us, hl with | [_, _, _, _], _ => rfl
  have F49 := fun_mk (st := s__law_rows) l49 c49 k49
  have b49 := F49.binds (ps := ["_law_stamper_here", "_law_script"]) fun _ _ _ _ _ _ us hl => match us, hl with | [_, _], _ => rfl
  have F50 := fun_mk (st := s_law) l50 c50 k50
  have b50 := F50.binds (ps := ["_law_script"]) fun _ _ _ _ _ _ us hl => match us, hl with | [_], _ => rfl
  letI : TabCfg := ⟨[(tt0, nm__law_weak), (tt1, nm_writing), (tt2, nm_counting), (tt3, nm__law_sure)]⟩
  refine ⟨PySem.W.fnOf "law" "law" (defArgs s_law) (defBody s_law) (defScope s_law) .none kV50 dc50 pm50 an50 cd50 ct50, [(cc0, tt0), (cc1, tt1), (cc2, tt2), (cc3, tt3)], spT K, List.forall_mem_cons.mpr ⟨own_at (own "_law_weak" (by simp) _ (PySem.W.mg_of X G a0)) l0 rfl rfl o0 p0, List.forall_mem_cons.mpr ⟨own_at (own "writing" (by simp) _ (PySem.W.mg_of X G a1)) l1 rfl rfl o1 p1, List.forall_mem_cons.mpr ⟨own_at (own "counting" (by simp) _ (PySem.W.mg_of X G a2)) l2 rfl rfl o2 p2, List.forall_mem_cons.mpr ⟨own_at (own "_law_sure" (by simp) _ (PySem.W.mg_of X G a3)) l3 rfl rfl o3 p3, List.forall_mem_nil _⟩⟩⟩⟩, List.forall_mem_cons.mpr ⟨q_n0, List.forall_mem_cons.mpr ⟨q_n1, List.forall_mem_cons.mpr ⟨q_n2, List.forall_mem_cons.mpr ⟨q_n3, List.forall_mem_nil _⟩⟩⟩⟩, List.forall_mem_cons.mpr ⟨PySem.W.codeHd_of_K X q_h0, List.forall_mem_cons.mpr ⟨PySem.W.codeHd_of_K X q_h1, List.forall_mem_cons.mpr ⟨PySem.W.codeHd_of_K X q_h2, List.forall_mem_cons.mpr ⟨PySem.W.codeHd_of_K X q_h3, List.forall_mem_nil _⟩⟩⟩⟩, fun s v => .of_eq rfl, fun H a ns hl _ hH hS => ⟨a, ns, rfl, hl, hS, ?_, fun _ => rfl⟩, fun base _ _ TB => ?_⟩
  · exact List.forall_mem_cons.mpr ⟨hH (cc0, tt0) (by simp), List.forall_mem_cons.mpr ⟨hH (cc1, tt1) (by simp), List.forall_mem_cons.mpr ⟨hH (cc2, tt2) (by simp), List.forall_mem_cons.mpr ⟨hH (cc3, tt3) (by simp), List.forall_mem_nil _⟩⟩⟩⟩
  · have T : Txt K mg { f__law_weak := f0, d__law_weak := _, f_writing := f1, d_writing := _, f_counting := f2, d_counting := _, f__law_sure := f3, d__law_sure := _, f__law_stamper := f4, d__law_stamper := _, f__law_count_by := f5, d__law_count_by := _, f__law_half := f6, d__law_half := _, f__law_many := f7, d__law_many := _, f_is_whole := f8, d_is_whole := _, f_is_stamp := f9, d_is_stamp := _, f_is_term := f10, d_is_term := _, f_part_written := f11, d_part_written := _, f_written := f12, d_written := _, f__law_tops := f13, d__law_tops := _, f__law_rows_of := f14, d__law_rows_of := _, f_is_marks := f15, d_is_marks := _, f_half := f16, d_half := _, f_joined := f17, d_joined := _, f_is_below := f18, d_is_below := _, f_how_many := f19, d_how_many := _, f_growth_terms := f20, d_growth_terms := _, f__law_cell_at := f21, d__law_cell_at := _, f__law_first := f22, d__law_first := _, f__law_is := f23, d__law_is := _, f__law_no_count := f24, d__law_no_count := _, f__law_no_elder := f25, d__law_no_elder := _, f__law_no_stamp := f26, d__law_no_stamp := _, f__law_no_paper := f27, d__law_no_paper := _, f__law_no_head := f28, d__law_no_head := _, f_Broken___init__ := f29, d_Broken___init__ := _, f_is_head := f30, d_is_head := _, f_growth_answer := f31, d_growth_answer := _, f__law_caught := f32, d__law_caught := _, f__law_text_by := f33, d__law_text_by := _, f__law_stamp_by := f34, d__law_stamp_by := _, f__law_other := f35, d__law_other := _, f__law_refused := f36, d__law_refused := _, f_Row___init__ := f37, d_Row___init__ := _, f_top_of := f38, d_top_of := _, f_Row_first := f39, d_Row_first := _, f_Row_mark_at := f40, d_Row_mark_at := _, f_Row_add := f41, d_Row_add := _, f__law_near := f42, d__law_near := _, f__law_whole := f43, d__law_whole := _, f__law_within := f44, d__law_within := _, f_Row_size := f45, d_Row_size := _, f_grown := f46, d_grown := _, f_Row_growth_paper := f47, d_Row_growth_paper := _, f__law_asked := f48, d__law_asked := _, f__law_rows := f49, d__law_rows := _, f_law := fa, d_law := _, c__law_weak := cc0, t__law_weak := tt0, c_writing := cc1, t_writing := tt1, c_counting := cc2, t_counting := tt2, c__law_sure := cc3, t__law_sure := tt3, k_Broken := kk0, k_NoHead := kk1, k_NoPaper := kk2, k_NoPlace := kk3, k_NoStamp := kk4, k_NoTerm := kk5, k_Row := kk6, k_StampError := kk7 } base := { F__law_weak := F0, b__law_weak := b0, g__law_weak := PySem.W.mg_of X G a0, F_writing := F1, b_writing := b1, g_writing := PySem.W.mg_of X G a1, F_counting := F2, b_counting := b2, g_counting := PySem.W.mg_of X G a2, F__law_sure := F3, b__law_sure := b3, g__law_sure := PySem.W.mg_of X G a3, F__law_stamper := F4, b__law_stamper := b4, g__law_stamper := PySem.W.mg_of X G a4, F__law_count_by := F5, b__law_count_by := b5, g__law_count_by := PySem.W.mg_of X G a5, F__law_half := F6, b__law_half := b6, g__law_half := PySem.W.mg_of X G a6, F__law_many := F7, b__law_many := b7, g__law_many := PySem.W.mg_of X G a7, F_is_whole := F8, b_is_whole := b8, g_is_whole := PySem.W.mg_of X G a8, F_is_stamp := F9, b_is_stamp := b9, g_is_stamp := PySem.W.mg_of X G a9, F_is_term := F10, b_is_term := b10, g_is_term := PySem.W.mg_of X G a10, F_part_written := F11, b_part_written := b11, g_part_written := PySem.W.mg_of X G a11, F_written := F12, b_written := b12, g_written := PySem.W.mg_of X G a12, F__law_tops := F13, b__law_tops := b13, g__law_tops := PySem.W.mg_of X G a13, F__law_rows_of := F14, b__law_rows_of := b14, g__law_rows_of := PySem.W.mg_of X G a14, F_is_marks := F15, b_is_marks := b15, g_is_marks := PySem.W.mg_of X G a15, F_half := F16, b_half := b16, g_half := PySem.W.mg_of X G a16, F_joined := F17, b_joined := b17, g_joined := PySem.W.mg_of X G a17, F_is_below := F18, b_is_below := b18, g_is_below := PySem.W.mg_of X G a18, F_how_many := F19, b_how_many := b19, g_how_many := PySem.W.mg_of X G a19, F_growth_terms := F20, b_growth_terms := b20, g_growth_terms := PySem.W.mg_of X G a20, F__law_cell_at := F21, b__law_cell_at := b21, g__law_cell_at := PySem.W.mg_of X G a21, F__law_first := F22, b__law_first := b22, g__law_first := PySem.W.mg_of X G a22, F__law_is := F23, b__law_is := b23, g__law_is := PySem.W.mg_of X G a23, F__law_no_count := F24, b__law_no_count := b24, g__law_no_count := PySem.W.mg_of X G a24, F__law_no_elder := F25, b__law_no_elder := b25, g__law_no_elder := PySem.W.mg_of X G a25, F__law_no_stamp := F26, b__law_no_stamp := b26, g__law_no_stamp := PySem.W.mg_of X G a26, F__law_no_paper := F27, b__law_no_paper := b27, g__law_no_paper := PySem.W.mg_of X G a27, F__law_no_head := F28, b__law_no_head := b28, g__law_no_head := PySem.W.mg_of X G a28, F_Broken___init__ := F29, b_Broken___init__ := b29, F_is_head := F30, b_is_head := b30, g_is_head := PySem.W.mg_of X G a30, F_growth_answer := F31, b_growth_answer := b31, g_growth_answer := PySem.W.mg_of X G a31, F__law_caught := F32, b__law_caught := b32, g__law_caught := PySem.W.mg_of X G a32, F__law_text_by := F33, b__law_text_by := b33, g__law_text_by := PySem.W.mg_of X G a33, F__law_stamp_by := F34, b__law_stamp_by := b34, g__law_stamp_by := PySem.W.mg_of X G a34, F__law_other := F35, b__law_other := b35, g__law_other := PySem.W.mg_of X G a35, F__law_refused := F36, b__law_refused := b36, g__law_refused := PySem.W.mg_of X G a36, F_Row___init__ := F37, b_Row___init__ := b37, F_top_of := F38, b_top_of := b38, g_top_of := PySem.W.mg_of X G a38, F_Row_first := F39, b_Row_first := b39, F_Row_mark_at := F40, b_Row_mark_at := b40, F_Row_add := F41, b_Row_add := b41, F__law_near := F42, b__law_near := b42, g__law_near := PySem.W.mg_of X G a42, F__law_whole := F43, b__law_whole := b43, g__law_whole := PySem.W.mg_of X G a43, F__law_within := F44, b__law_within := b44, g__law_within := PySem.W.mg_of X G a44, F_Row_size := F45, b_Row_size := b45, F_grown := F46, b_grown := b46, g_grown := PySem.W.mg_of X G a46, F_Row_growth_paper := F47, b_Row_growth_paper := b47, F__law_asked := F48, b__law_asked := b48, g__law_asked := PySem.W.mg_of X G a48, F__law_rows := F49, b__law_rows := b49, g__law_rows := PySem.W.mg_of X G a49, F_law := F50, b_law := b50, g_law := PySem.W.mg_of X G a50, z_ValueError := PySem.W.mg_none_of X G z_ValueError, z_bool := PySem.W.mg_none_of X G z_bool, z_int := PySem.W.mg_none_of X G z_int, z_isinstance := PySem.W.mg_none_of X G z_isinstance, z_len := PySem.W.mg_none_of X G z_len, z_list := PySem.W.mg_none_of X G z_list, z_max := PySem.W.mg_none_of X G z_max, z_min := PySem.W.mg_none_of X G z_min, z_range := PySem.W.mg_none_of X G z_range, z_str := PySem.W.mg_none_of X G z_str, z_tuple := PySem.W.mg_none_of X G z_tuple, G_Broken := PySem.W.mg_of X G g_Broken, X_Broken := oexB_ok q_x_Broken, x1_Broken := x1_Broken, x2_Broken := x2_Broken, I_Broken := xi_Broken, i_Broken := xt_Broken, G_NoHead := PySem.W.mg_of X G g_NoHead, Q_NoHead := q_NoHead, K_NoHead := kp_NoHead, S_NoHead := sb_NoHead, T_NoHead := ty_NoHead, G_NoPaper := PySem.W.mg_of X G g_NoPaper, Q_NoPaper := q_NoPaper, K_NoPaper := kp_NoPaper, S_NoPaper := sb_NoPaper, T_NoPaper := ty_NoPaper, G_NoPlace := PySem.W.mg_of X G g_NoPlace, Q_NoPlace := q_NoPlace, K_NoPlace := kp_NoPlace, S_NoPlace := sb_NoPlace, T_NoPlace := ty_NoPlace, G_NoStamp := PySem.W.mg_of X G g_NoStamp, Q_NoStamp := q_NoStamp, K_NoStamp := kp_NoStamp, S_NoStamp := sb_NoStamp, T_NoStamp := ty_NoStamp, G_NoTerm := PySem.W.mg_of X G g_NoTerm, Q_NoTerm := q_NoTerm, K_NoTerm := kp_NoTerm, S_NoTerm := sb_NoTerm, T_NoTerm := ty_NoTerm, G_Row := PySem.W.mg_of X G g_Row, C_Row := ⟨pg_Row, hd_Row, po_Row, sa_Row⟩, M_Row := ⟨mk_Row, in_Row, if_Row, kc_Row⟩, G_StampError := PySem.W.mg_of X G g_StampError, J_StampError := iniB_ok q_j_StampError, N_Row_add := ⟨m_Row_add, fn41, k41⟩, N_Row_first := ⟨m_Row_first, fn39, k39⟩, N_Row_growth_paper := ⟨m_Row_growth_paper, fn47, k47⟩, N_Row_mark_at := ⟨m_Row_mark_at, fn40, k40⟩, N_Row_size := ⟨m_Row_size, fn45, k45⟩, D_entries := (fld_cons (PySem.W.mg_of X G g_Row) n_Row_entries fld_nil), D_stamper := (fld_cons (PySem.W.mg_of X G g_Row) n_Row_stamper fld_nil), isa := isaOk_of ⟨⟨_, _, PySem.W.mg_of X G g_Broken, PySem.W.mg_of X G g_Broken, e_Broken_Broken, i_Broken_Broken, excB_ok ex_Broken⟩, ⟨_, _, PySem.W.mg_of X G g_Broken, PySem.W.mg_of X G g_NoHead, e_Broken_NoHead, i_Broken_NoHead, excB_ok ex_Broken⟩, ⟨_, _, PySem.W.mg_of X G g_Broken, PySem.W.mg_of X G g_NoPaper, e_Broken_NoPaper, i_Broken_NoPaper, excB_ok ex_Broken⟩, ⟨_, _, PySem.W.mg_of X G g_Broken, PySem.W.mg_of X G g_NoPlace, e_Broken_NoPlace, i_Broken_NoPlace, excB_ok ex_Broken⟩, ⟨_, _, PySem.W.mg_of X G g_Broken, PySem.W.mg_of X G g_NoStamp, e_Broken_NoStamp, i_Broken_NoStamp, excB_ok ex_Broken⟩, ⟨_, _, PySem.W.mg_of X G g_Broken, PySem.W.mg_of X G g_StampError, e_Broken_StampError, i_Broken_StampError, excB_ok ex_Broken⟩, ⟨_, _, PySem.W.mg_of X G g_NoHead, PySem.W.mg_of X G g_Broken, e_NoHead_Broken, i_NoHead_Broken, excB_ok ex_NoHead⟩, ⟨_, _, PySem.W.mg_of X G g_NoHead, PySem.W.mg_of X G g_NoHead, e_NoHead_NoHead, i_NoHead_NoHead, excB_ok ex_NoHead⟩, ⟨_, _, PySem.W.mg_of X G g_NoHead, PySem.W.mg_of X G g_NoPaper, e_NoHead_NoPaper, i_NoHead_NoPaper, excB_ok ex_NoHead⟩, ⟨_, _, PySem.W.mg_of X G g_NoHead, PySem.W.mg_of X G g_NoPlace, e_NoHead_NoPlace, i_NoHead_NoPlace, excB_ok ex_NoHead⟩, ⟨_, _, PySem.W.mg_of X G g_NoHead, PySem.W.mg_of X G g_NoStamp, e_NoHead_NoStamp, i_NoHead_NoStamp, excB_ok ex_NoHead⟩, ⟨_, _, PySem.W.mg_of X G g_NoHead, PySem.W.mg_of X G g_StampError, e_NoHead_StampError, i_NoHead_StampError, excB_ok ex_NoHead⟩, ⟨_, _, PySem.W.mg_of X G g_NoPaper, PySem.W.mg_of X G g_Broken, e_NoPaper_Broken, i_NoPaper_Broken, excB_ok ex_NoPaper⟩, ⟨_, _, PySem.W.mg_of X G g_NoPaper, PySem.W.mg_of X G g_NoHead, e_NoPaper_NoHead, i_NoPaper_NoHead, excB_ok ex_NoPaper⟩, ⟨_, _, PySem.W.mg_of X G g_NoPaper, PySem.W.mg_of X G g_NoPaper, e_NoPaper_NoPaper, i_NoPaper_NoPaper, excB_ok ex_NoPaper⟩, ⟨_, _, PySem.W.mg_of X G g_NoPaper, PySem.W.mg_of X G g_NoPlace, e_NoPaper_NoPlace, i_NoPaper_NoPlace, excB_ok ex_NoPaper⟩, ⟨_, _, PySem.W.mg_of X G g_NoPaper, PySem.W.mg_of X G g_NoStamp, e_NoPaper_NoStamp, i_NoPaper_NoStamp, excB_ok ex_NoPaper⟩, ⟨_, _, PySem.W.mg_of X G g_NoPaper, PySem.W.mg_of X G g_StampError, e_NoPaper_StampError, i_NoPaper_StampError, excB_ok ex_NoPaper⟩, ⟨_, _, PySem.W.mg_of X G g_NoPlace, PySem.W.mg_of X G g_Broken, e_NoPlace_Broken, i_NoPlace_Broken, excB_ok ex_NoPlace⟩, ⟨_, _, PySem.W.mg_of X G g_NoPlace, PySem.W.mg_of X G g_NoHead, e_NoPlace_NoHead, i_NoPlace_NoHead, excB_ok ex_NoPlace⟩, ⟨_, _, PySem.W.mg_of X G g_NoPlace, PySem.W.mg_of X G g_NoPaper, e_NoPlace_NoPaper, i_NoPlace_NoPaper, excB_ok ex_NoPlace⟩, ⟨_, _, PySem.W.mg_of X G g_NoPlace, PySem.W.mg_of X G g_NoPlace, e_NoPlace_NoPlace, i_NoPlace_NoPlace, excB_ok ex_NoPlace⟩, ⟨_, _, PySem.W.mg_of X G g_NoPlace, PySem.W.mg_of X G g_NoStamp, e_NoPlace_NoStamp, i_NoPlace_NoStamp, excB_ok ex_NoPlace⟩, ⟨_, _, PySem.W.mg_of X G g_NoPlace, PySem.W.mg_of X G g_StampError, e_NoPlace_StampError, i_NoPlace_StampError, excB_ok ex_NoPlace⟩, ⟨_, _, PySem.W.mg_of X G g_NoStamp, PySem.W.mg_of X G g_Broken, e_NoStamp_Broken, i_NoStamp_Broken, excB_ok ex_NoStamp⟩, ⟨_, _, PySem.W.mg_of X G g_NoStamp, PySem.W.mg_of X G g_NoHead, e_NoStamp_NoHead, i_NoStamp_NoHead, excB_ok ex_NoStamp⟩, ⟨_, _, PySem.W.mg_of X G g_NoStamp, PySem.W.mg_of X G g_NoPaper, e_NoStamp_NoPaper, i_NoStamp_NoPaper, excB_ok ex_NoStamp⟩, ⟨_, _, PySem.W.mg_of X G g_NoStamp, PySem.W.mg_of X G g_NoPlace, e_NoStamp_NoPlace, i_NoStamp_NoPlace, excB_ok ex_NoStamp⟩, ⟨_, _, PySem.W.mg_of X G g_NoStamp, PySem.W.mg_of X G g_NoStamp, e_NoStamp_NoStamp, i_NoStamp_NoStamp, excB_ok ex_NoStamp⟩, ⟨_, _, PySem.W.mg_of X G g_NoStamp, PySem.W.mg_of X G g_StampError, e_NoStamp_StampError, i_NoStamp_StampError, excB_ok ex_NoStamp⟩, ⟨_, _, PySem.W.mg_of X G g_NoTerm, PySem.W.mg_of X G g_Broken, e_NoTerm_Broken, i_NoTerm_Broken, excB_ok ex_NoTerm⟩, ⟨_, _, PySem.W.mg_of X G g_NoTerm, PySem.W.mg_of X G g_NoHead, e_NoTerm_NoHead, i_NoTerm_NoHead, excB_ok ex_NoTerm⟩, ⟨_, _, PySem.W.mg_of X G g_NoTerm, PySem.W.mg_of X G g_NoPaper, e_NoTerm_NoPaper, i_NoTerm_NoPaper, excB_ok ex_NoTerm⟩, ⟨_, _, PySem.W.mg_of X G g_NoTerm, PySem.W.mg_of X G g_NoPlace, e_NoTerm_NoPlace, i_NoTerm_NoPlace, excB_ok ex_NoTerm⟩, ⟨_, _, PySem.W.mg_of X G g_NoTerm, PySem.W.mg_of X G g_NoStamp, e_NoTerm_NoStamp, i_NoTerm_NoStamp, excB_ok ex_NoTerm⟩, ⟨_, _, PySem.W.mg_of X G g_NoTerm, PySem.W.mg_of X G g_StampError, e_NoTerm_StampError, i_NoTerm_StampError, excB_ok ex_NoTerm⟩, trivial⟩ ⟨⟨_, PySem.W.mg_of X G g_Broken, i_Broken_ValueError, excB_ok ex_Broken⟩, ⟨_, PySem.W.mg_of X G g_NoHead, i_NoHead_ValueError, excB_ok ex_NoHead⟩, ⟨_, PySem.W.mg_of X G g_NoPaper, i_NoPaper_ValueError, excB_ok ex_NoPaper⟩, ⟨_, PySem.W.mg_of X G g_NoPlace, i_NoPlace_ValueError, excB_ok ex_NoPlace⟩, ⟨_, PySem.W.mg_of X G g_NoStamp, i_NoStamp_ValueError, excB_ok ex_NoStamp⟩, ⟨_, PySem.W.mg_of X G g_NoTerm, i_NoTerm_ValueError, excB_ok ex_NoTerm⟩, trivial⟩, xf := (xf_cons (PySem.W.mg_of X G g_Broken) (excB_ok ex_Broken) x1_Broken (xf_cons (PySem.W.mg_of X G g_Broken) (excB_ok ex_Broken) x2_Broken xf_nil)), L__law_weak := ⟨_, _, _, _, _, _, _, _, rfl, l0, c0⟩, t__law_weak := TB (cc0, tt0) (by simp), B__law_weak := ⟨show (tt0, nm__law_weak) ∈ ([(tt0, nm__law_weak), (tt1, nm_writing), (tt2, nm_counting), (tt3, nm__law_sure)] : List (Addr × (Nat → Nat → Str))) from by simp, fun p (hp : p ∈ ([(tt0, nm__law_weak), (tt1, nm_writing), (tt2, nm_counting), (tt3, nm__law_sure)] : List (Addr × (Nat → Nat → Str)))) e => by (simp only [List.mem_cons, List.mem_nil_iff, or_false, List.not_mem_nil] at hp; exact hp.elim (fun h => (by subst h; rfl)) (fun hp => hp.elim (fun h => (by subst h; rw [show tt1 = tt0 from e, beq_self_eq_true] at q_d0_1; cases q_d0_1)) (fun hp => hp.elim (fun h => (by subst h; rw [show tt2 = tt0 from e, beq_self_eq_true] at q_d0_2; cases q_d0_2)) (fun h => (by subst h; rw [show tt3 = tt0 from e, beq_self_eq_true] at q_d0_3; cases q_d0_3)))))⟩, L_writing := ⟨_, _, _, _, _, _, _, _, rfl, l1, c1⟩, t_writing := TB (cc1, tt1) (by simp), B_writing := ⟨show (tt1, nm_writing) ∈ ([(tt0, nm__law_weak), (tt1, nm_writing), (tt2, nm_counting), (tt3, nm__law_sure)] : List (Addr × (Nat → Nat → Str))) from by simp, fun p (hp : p ∈ ([(tt0, nm__law_weak), (tt1, nm_writing), (tt2, nm_counting), (tt3, nm__law_sure)] : List (Addr × (Nat → Nat → Str)))) e => by (simp only [List.mem_cons, List.mem_nil_iff, or_false, List.not_mem_nil] at hp; exact hp.elim (fun h => (by subst h; rw [show tt0 = tt1 from e, beq_self_eq_true] at q_d0_1; cases q_d0_1)) (fun hp => hp.elim (fun h => (by subst h; rfl)) (fun hp => hp.elim (fun h => (by subst h; rw [show tt2 = tt1 from e, beq_self_eq_true] at q_d1_2; cases q_d1_2)) (fun h => (by subst h; rw [show tt3 = tt1 from e, beq_self_eq_true] at q_d1_3; cases q_d1_3)))))⟩, L_counting := ⟨_, _, _, _, _, _, _, _, rfl, l2, c2⟩, t_counting := TB (cc2, tt2) (by simp), B_counting := ⟨show (tt2, nm_counting) ∈ ([(tt0, nm__law_weak), (tt1, nm_writing), (tt2, nm_counting), (tt3, nm__law_sure)] : List (Addr × (Nat → Nat → Str))) from by simp, fun p (hp : p ∈ ([(tt0, nm__law_weak), (tt1, nm_writing), (tt2, nm_counting), (tt3, nm__law_sure)] : List (Addr × (Nat → Nat → Str)))) e => by (simp only [List.mem_cons, List.mem_nil_iff, or_false, List.not_mem_nil] at hp; exact hp.elim (fun h => (by subst h; rw [show tt0 = tt2 from e, beq_self_eq_true] at q_d0_2; cases q_d0_2)) (fun hp => hp.elim (fun h => (by subst h; rw [show tt1 = tt2 from e, beq_self_eq_true] at q_d1_2; cases q_d1_2)) (fun hp => hp.elim (fun h => (by subst h; rfl)) (fun h => (by subst h; rw [show tt3 = tt2 from e, beq_self_eq_true] at q_d2_3; cases q_d2_3)))))⟩, L__law_sure := ⟨_, _, _, _, _, _, _, _, rfl, l3, c3⟩, t__law_sure := TB (cc3, tt3) (by simp), B__law_sure := ⟨show (tt3, nm__law_sure) ∈ ([(tt0, nm__law_weak), (tt1, nm_writing), (tt2, nm_counting), (tt3, nm__law_sure)] : List (Addr × (Nat → Nat → Str))) from by simp, fun p (hp : p ∈ ([(tt0, nm__law_weak), (tt1, nm_writing), (tt2, nm_counting), (tt3, nm__law_sure)] : List (Addr × (Nat → Nat → Str)))) e => by (simp only [List.mem_cons, List.mem_nil_iff, or_false, List.not_mem_nil] at hp; exact hp.elim (fun h => (by subst h; rw [show tt0 = tt3 from e, beq_self_eq_true] at q_d0_3; cases q_d0_3)) (fun hp => hp.elim (fun h => (by subst h; rw [show tt1 = tt3 from e, beq_self_eq_true] at q_d1_3; cases q_d1_3)) (fun hp => hp.elim (fun h => (by subst h; rw [show tt2 = tt3 from e, beq_self_eq_true] at q_d2_3; cases q_d2_3)) (fun h => (by subst h; rfl)))))⟩ }
    exact law_endT (ok_law T) law_true
end Law
open PySem PySem.W PyProof.Rows
set_option maxRecDepth 100000 in
set_option maxHeartbeats 0 in
theorem PySem.Challenge.cw_rootstamp_k47_refusals_of_growths_holds : PySem.Challenge.rw_rootstamp_k47_refusals_of_growths.Holds := by
  w_on; o_law; k_head; (case hw => w_witness2)
  k_fill
  refine Eng.walk_engT (l := PySem.Challenge.rw_rootstamp_k47_refusals_of_growths) (k := 151) (x := "_law_script") ["_law_weak", "writing", "counting", "_law_sure"] rfl rfl ⟨rfl, by decide, by decide⟩ (by decide +kernel) (fun w h Y => PySem.W.km_in_of Y) ?F
  case F =>
    intro w mg fa h KX G hmg own
    refine' Law.all_mk KX G hmg own ?a0 ?l0 ?c0 ?o0 ?p0 ?q_h0 ?q_n0 ?k0 ?a1 ?l1 ?c1 ?o1 ?p1 ?q_h1 ?q_n1 ?q_d0_1 ?k1 ?a2 ?l2 ?c2 ?o2 ?p2 ?q_h2 ?q_n2 ?q_d0_2 ?q_d1_2 ?k2 ?a3 ?l3 ?c3 ?o3 ?p3 ?q_h3 ?q_n3 ?q_d0_3 ?q_d1_3 ?q_d2_3 ?k3 ?a4 ?l4 ?c4 ?k4 ?a5 ?l5 ?c5 ?k5 ?a6 ?l6 ?c6 ?k6 ?a7 ?l7 ?c7 ?k7 ?a8 ?l8 ?c8 ?k8 ?a9 ?l9 ?c9 ?k9 ?a10 ?l10 ?c10 ?k10 ?a11 ?l11 ?c11 ?k11 ?a12 ?l12 ?c12 ?k12 ?a13 ?l13 ?c13 ?k13 ?a14 ?l14 ?c14 ?k14 ?a15 ?l15 ?c15 ?k15 ?a16 ?l16 ?c16 ?k16 ?a17 ?l17 ?c17 ?k17 ?a18 ?l18 ?c18 ?k18 ?a19 ?l19 ?c19 ?k19 ?a20 ?l20 ?c20 ?k20 ?a21 ?l21 ?c21 ?k21 ?a22 ?l22 ?c22 ?k22 ?a23 ?l23 ?c23 ?k23 ?a24 ?l24 ?c24 ?k24 ?a25 ?l25 ?c25 ?k25 ?a26 ?l26 ?c26 ?k26 ?a27 ?l27 ?c27 ?k27 ?a28 ?l28 ?c28 ?k28 ?g_Broken ?a29 ?fn29 ?l29 ?c29 ?k29 ?a30 ?l30 ?c30 ?k30 ?a31 ?l31 ?c31 ?k31 ?a32 ?l32 ?c32 ?k32 ?a33 ?l33 ?c33 ?k33 ?a34 ?l34 ?c34 ?k34 ?a35 ?l35 ?c35 ?k35 ?a36 ?l36 ?c36 ?k36 ?g_Row ?a37 ?fn37 ?l37 ?c37 ?k37 ?a38 ?l38 ?c38 ?k38 ?a39 ?fn39 ?l39 ?c39 ?k39 ?a40 ?fn40 ?l40 ?c40 ?k40 ?a41 ?fn41 ?l41 ?c41 ?k41 ?a42 ?l42 ?c42 ?k42 ?a43 ?l43 ?c43 ?k43 ?a44 ?l44 ?c44 ?k44 ?a45 ?fn45 ?l45 ?c45 ?k45 ?a46 ?l46 ?c46 ?k46 ?a47 ?fn47 ?l47 ?c47 ?k47 ?a48 ?l48 ?c48 ?k48 ?a49 ?l49 ?c49 ?k49 ?a50 ?l50 ?c50 ?k50 ?z_ValueError ?z_bool ?z_int ?z_isinstance ?z_len ?z_list ?z_max ?z_min ?z_range ?z_str ?z_tuple ?q_x_Broken ?x1_Broken ?x2_Broken ?xi_Broken ?xt_Broken ?ex_Broken ?g_NoHead ?q_NoHead ?kp_NoHead ?sb_NoHead ?ty_NoHead ?ex_NoHead ?g_NoPaper ?q_NoPaper ?kp_NoPaper ?sb_NoPaper ?ty_NoPaper ?ex_NoPaper ?g_NoPlace ?q_NoPlace ?kp_NoPlace ?sb_NoPlace ?ty_NoPlace ?ex_NoPlace ?g_NoStamp ?q_NoStamp ?kp_NoStamp ?sb_NoStamp ?ty_NoStamp ?ex_NoStamp ?g_NoTerm ?q_NoTerm ?kp_NoTerm ?sb_NoTerm ?ty_NoTerm ?ex_NoTerm ?pg_Row ?hd_Row ?po_Row ?sa_Row ?mk_Row ?kc_Row ?in_Row ?if_Row ?g_StampError ?q_j_StampError ?e_Broken_Broken ?i_Broken_Broken ?e_Broken_NoHead ?i_Broken_NoHead ?e_Broken_NoPaper ?i_Broken_NoPaper ?e_Broken_NoPlace ?i_Broken_NoPlace ?e_Broken_NoStamp ?i_Broken_NoStamp ?e_Broken_StampError ?i_Broken_StampError ?e_NoHead_Broken ?i_NoHead_Broken ?e_NoHead_NoHead ?i_NoHead_NoHead ?e_NoHead_NoPaper ?i_NoHead_NoPaper ?e_NoHead_NoPlace ?i_NoHead_NoPlace ?e_NoHead_NoStamp ?i_NoHead_NoStamp ?e_NoHead_StampError ?i_NoHead_StampError ?e_NoPaper_Broken ?i_NoPaper_Broken ?e_NoPaper_NoHead ?i_NoPaper_NoHead ?e_NoPaper_NoPaper ?i_NoPaper_NoPaper ?e_NoPaper_NoPlace ?i_NoPaper_NoPlace ?e_NoPaper_NoStamp ?i_NoPaper_NoStamp ?e_NoPaper_StampError ?i_NoPaper_StampError ?e_NoPlace_Broken ?i_NoPlace_Broken ?e_NoPlace_NoHead ?i_NoPlace_NoHead ?e_NoPlace_NoPaper ?i_NoPlace_NoPaper ?e_NoPlace_NoPlace ?i_NoPlace_NoPlace ?e_NoPlace_NoStamp ?i_NoPlace_NoStamp ?e_NoPlace_StampError ?i_NoPlace_StampError ?e_NoStamp_Broken ?i_NoStamp_Broken ?e_NoStamp_NoHead ?i_NoStamp_NoHead ?e_NoStamp_NoPaper ?i_NoStamp_NoPaper ?e_NoStamp_NoPlace ?i_NoStamp_NoPlace ?e_NoStamp_NoStamp ?i_NoStamp_NoStamp ?e_NoStamp_StampError ?i_NoStamp_StampError ?e_NoTerm_Broken ?i_NoTerm_Broken ?e_NoTerm_NoHead ?i_NoTerm_NoHead ?e_NoTerm_NoPaper ?i_NoTerm_NoPaper ?e_NoTerm_NoPlace ?i_NoTerm_NoPlace ?e_NoTerm_NoStamp ?i_NoTerm_NoStamp ?e_NoTerm_StampError ?i_NoTerm_StampError ?i_Broken_ValueError ?i_NoHead_ValueError ?i_NoPaper_ValueError ?i_NoPlace_ValueError ?i_NoStamp_ValueError ?i_NoTerm_ValueError ?m_Row_add ?m_Row_first ?m_Row_growth_paper ?m_Row_mark_at ?m_Row_size ?n_Row_entries ?n_Row_stamper
    (case a0 => k_is); (case l0 => k_is); (case c0 => k_is); (case o0 => k_is); (case p0 => exact rfl); (case q_h0 => kernel_rfl); (case q_n0 => kernel_rfl); (case k0 => k_is); (case a1 => k_is); (case l1 => k_is); (case c1 => k_is); (case o1 => k_is); (case p1 => exact rfl); (case q_h1 => kernel_rfl); (case q_n1 => kernel_rfl); (case q_d0_1 => kernel_rfl); (case k1 => k_is); (case a2 => k_is); (case l2 => k_is); (case c2 => k_is); (case o2 => k_is); (case p2 => exact rfl); (case q_h2 => kernel_rfl); (case q_n2 => kernel_rfl); (case q_d0_2 => kernel_rfl); (case q_d1_2 => kernel_rfl); (case k2 => k_is); (case a3 => k_is); (case l3 => k_is); (case c3 => k_is); (case o3 => k_is); (case p3 => exact rfl); (case q_h3 => kernel_rfl); (case q_n3 => kernel_rfl); (case q_d0_3 => kernel_rfl); (case q_d1_3 => kernel_rfl); (case q_d2_3 => kernel_rfl); (case k3 => k_is); (case a4 => k_is); (case l4 => k_is); (case c4 => k_is); (case k4 => k_is); (case a5 => k_is); (case l5 => k_is); (case c5 => k_is); (case k5 => k_is); (case a6 => k_is); (case l6 => k_is); (case c6 => k_is); (case k6 => k_is); (case a7 => k_is); (case l7 => k_is); (case c7 => k_is); (case k7 => k_is); (case a8 => k_is); (case l8 => k_is); (case c8 => k_is); (case k8 => k_is); (case a9 => k_is); (case l9 => k_is); (case c9 => k_is); (case k9 => k_is); (case a10 => k_is); (case l10 => k_is); (case c10 => k_is); (case k10 => k_is); (case a11 => k_is); (case l11 => k_is); (case c11 => k_is); (case k11 => k_is); (case a12 => k_is); (case l12 => k_is); (case c12 => k_is); (case k12 => k_is); (case a13 => k_is); (case l13 => k_is); (case c13 => k_is); (case k13 => k_is); (case a14 => k_is); (case l14 => k_is); (case c14 => k_is); (case k14 => k_is); (case a15 => k_is); (case l15 => k_is); (case c15 => k_is); (case k15 => k_is); (case a16 => k_is); (case l16 => k_is); (case c16 => k_is); (case k16 => k_is); (case a17 => k_is); (case l17 => k_is); (case c17 => k_is); (case k17 => k_is); (case a18 => k_is); (case l18 => k_is); (case c18 => k_is); (case k18 => k_is); (case a19 => k_is); (case l19 => k_is); (case c19 => k_is); (case k19 => k_is); (case a20 => k_is); (case l20 => k_is); (case c20 => k_is); (case k20 => k_is); (case a21 => k_is); (case l21 => k_is); (case c21 => k_is); (case k21 => k_is); (case a22 => k_is); (case l22 => k_is); (case c22 => k_is); (case k22 => k_is); (case a23 => k_is); (case l23 => k_is); (case c23 => k_is); (case k23 => k_is); (case a24 => k_is); (case l24 => k_is); (case c24 => k_is); (case k24 => k_is); (case a25 => k_is); (case l25 => k_is); (case c25 => k_is); (case k25 => k_is); (case a26 => k_is); (case l26 => k_is); (case c26 => k_is); (case k26 => k_is); (case a27 => k_is); (case l27 => k_is); (case c27 => k_is); (case k27 => k_is); (case a28 => k_is); (case l28 => k_is); (case c28 => k_is); (case k28 => k_is); (case g_Broken => k_is); (case a29 => k_is); (case fn29 => k_is); (case l29 => k_is); (case c29 => k_is); (case k29 => k_is); (case a30 => k_is); (case l30 => k_is); (case c30 => k_is); (case k30 => k_is); (case a31 => k_is); (case l31 => k_is); (case c31 => k_is); (case k31 => k_is); (case a32 => k_is); (case l32 => k_is); (case c32 => k_is); (case k32 => k_is); (case a33 => k_is); (case l33 => k_is); (case c33 => k_is); (case k33 => k_is); (case a34 => k_is); (case l34 => k_is); (case c34 => k_is); (case k34 => k_is); (case a35 => k_is); (case l35 => k_is); (case c35 => k_is); (case k35 => k_is); (case a36 => k_is); (case l36 => k_is); (case c36 => k_is); (case k36 => k_is); (case g_Row => k_is); (case a37 => k_is); (case fn37 => k_is); (case l37 => k_is); (case c37 => k_is); (case k37 => k_is); (case a38 => k_is); (case l38 => k_is); (case c38 => k_is); (case k38 => k_is); (case a39 => k_is); (case fn39 => k_is); (case l39 => k_is); (case c39 => k_is); (case k39 => k_is); (case a40 => k_is); (case fn40 => k_is); (case l40 => k_is); (case c40 => k_is); (case k40 => k_is); (case a41 => k_is); (case fn41 => k_is); (case l41 => k_is); (case c41 => k_is); (case k41 => k_is); (case a42 => k_is); (case l42 => k_is); (case c42 => k_is); (case k42 => k_is); (case a43 => k_is); (case l43 => k_is); (case c43 => k_is); (case k43 => k_is); (case a44 => k_is); (case l44 => k_is); (case c44 => k_is); (case k44 => k_is); (case a45 => k_is); (case fn45 => k_is); (case l45 => k_is); (case c45 => k_is); (case k45 => k_is); (case a46 => k_is); (case l46 => k_is); (case c46 => k_is); (case k46 => k_is); (case a47 => k_is); (case fn47 => k_is); (case l47 => k_is); (case c47 => k_is); (case k47 => k_is); (case a48 => k_is); (case l48 => k_is); (case c48 => k_is); (case k48 => k_is); (case a49 => k_is); (case l49 => k_is); (case c49 => k_is); (case k49 => k_is); (case a50 => k_is); (case l50 => k_is); (case c50 => k_is); (case k50 => k_is); (case z_ValueError => k_is); (case z_bool => k_is); (case z_int => k_is); (case z_isinstance => k_is); (case z_len => k_is); (case z_list => k_is); (case z_max => k_is); (case z_min => k_is); (case z_range => k_is); (case z_str => k_is); (case z_tuple => k_is); (case q_x_Broken => kernel_rfl); (case x1_Broken => k_is); (case x2_Broken => k_is); (case xi_Broken => k_is); (case xt_Broken => k_is); (case ex_Broken => kernel_rfl); (case g_NoHead => k_is); (case q_NoHead => kernel_rfl); (case kp_NoHead => k_is); (case sb_NoHead => k_is); (case ty_NoHead => k_is); (case ex_NoHead => kernel_rfl); (case g_NoPaper => k_is); (case q_NoPaper => kernel_rfl); (case kp_NoPaper => k_is); (case sb_NoPaper => k_is); (case ty_NoPaper => k_is); (case ex_NoPaper => kernel_rfl); (case g_NoPlace => k_is); (case q_NoPlace => kernel_rfl); (case kp_NoPlace => k_is); (case sb_NoPlace => k_is); (case ty_NoPlace => k_is); (case ex_NoPlace => kernel_rfl); (case g_NoStamp => k_is); (case q_NoStamp => kernel_rfl); (case kp_NoStamp => k_is); (case sb_NoStamp => k_is); (case ty_NoStamp => k_is); (case ex_NoStamp => kernel_rfl); (case g_NoTerm => k_is); (case q_NoTerm => kernel_rfl); (case kp_NoTerm => k_is); (case sb_NoTerm => k_is); (case ty_NoTerm => k_is); (case ex_NoTerm => kernel_rfl); (case pg_Row => k_is); (case hd_Row => k_is); (case po_Row => k_is); (case sa_Row => k_is); (case mk_Row => k_is); (case kc_Row => k_is); (case in_Row => k_is); (case if_Row => k_is); (case g_StampError => k_is); (case q_j_StampError => kernel_rfl); (case e_Broken_Broken => kernel_rfl); (case i_Broken_Broken => kernel_rfl); (case e_Broken_NoHead => kernel_rfl); (case i_Broken_NoHead => kernel_rfl); (case e_Broken_NoPaper => kernel_rfl); (case i_Broken_NoPaper => kernel_rfl); (case e_Broken_NoPlace => kernel_rfl); (case i_Broken_NoPlace => kernel_rfl); (case e_Broken_NoStamp => kernel_rfl); (case i_Broken_NoStamp => kernel_rfl); (case e_Broken_StampError => kernel_rfl); (case i_Broken_StampError => kernel_rfl); (case e_NoHead_Broken => kernel_rfl); (case i_NoHead_Broken => kernel_rfl); (case e_NoHead_NoHead => kernel_rfl); (case i_NoHead_NoHead => kernel_rfl); (case e_NoHead_NoPaper => kernel_rfl); (case i_NoHead_NoPaper => kernel_rfl); (case e_NoHead_NoPlace => kernel_rfl); (case i_NoHead_NoPlace => kernel_rfl); (case e_NoHead_NoStamp => kernel_rfl); (case i_NoHead_NoStamp => kernel_rfl); (case e_NoHead_StampError => kernel_rfl); (case i_NoHead_StampError => kernel_rfl); (case e_NoPaper_Broken => kernel_rfl); (case i_NoPaper_Broken => kernel_rfl); (case e_NoPaper_NoHead => kernel_rfl); (case i_NoPaper_NoHead => kernel_rfl); (case e_NoPaper_NoPaper => kernel_rfl); (case i_NoPaper_NoPaper => kernel_rfl); (case e_NoPaper_NoPlace => kernel_rfl); (case i_NoPaper_NoPlace => kernel_rfl); (case e_NoPaper_NoStamp => kernel_rfl); (case i_NoPaper_NoStamp => kernel_rfl); (case e_NoPaper_StampError => kernel_rfl); (case i_NoPaper_StampError => kernel_rfl); (case e_NoPlace_Broken => kernel_rfl); (case i_NoPlace_Broken => kernel_rfl); (case e_NoPlace_NoHead => kernel_rfl); (case i_NoPlace_NoHead => kernel_rfl); (case e_NoPlace_NoPaper => kernel_rfl); (case i_NoPlace_NoPaper => kernel_rfl); (case e_NoPlace_NoPlace => kernel_rfl); (case i_NoPlace_NoPlace => kernel_rfl); (case e_NoPlace_NoStamp => kernel_rfl); (case i_NoPlace_NoStamp => kernel_rfl); (case e_NoPlace_StampError => kernel_rfl); (case i_NoPlace_StampError => kernel_rfl); (case e_NoStamp_Broken => kernel_rfl); (case i_NoStamp_Broken => kernel_rfl); (case e_NoStamp_NoHead => kernel_rfl); (case i_NoStamp_NoHead => kernel_rfl); (case e_NoStamp_NoPaper => kernel_rfl); (case i_NoStamp_NoPaper => kernel_rfl); (case e_NoStamp_NoPlace => kernel_rfl); (case i_NoStamp_NoPlace => kernel_rfl); (case e_NoStamp_NoStamp => kernel_rfl); (case i_NoStamp_NoStamp => kernel_rfl); (case e_NoStamp_StampError => kernel_rfl); (case i_NoStamp_StampError => kernel_rfl); (case e_NoTerm_Broken => kernel_rfl); (case i_NoTerm_Broken => kernel_rfl); (case e_NoTerm_NoHead => kernel_rfl); (case i_NoTerm_NoHead => kernel_rfl); (case e_NoTerm_NoPaper => kernel_rfl); (case i_NoTerm_NoPaper => kernel_rfl); (case e_NoTerm_NoPlace => kernel_rfl); (case i_NoTerm_NoPlace => kernel_rfl); (case e_NoTerm_NoStamp => kernel_rfl); (case i_NoTerm_NoStamp => kernel_rfl); (case e_NoTerm_StampError => kernel_rfl); (case i_NoTerm_StampError => kernel_rfl); (case i_Broken_ValueError => kernel_rfl); (case i_NoHead_ValueError => kernel_rfl); (case i_NoPaper_ValueError => kernel_rfl); (case i_NoPlace_ValueError => kernel_rfl); (case i_NoStamp_ValueError => kernel_rfl); (case i_NoTerm_ValueError => kernel_rfl); (case m_Row_add => k_is); (case m_Row_first => k_is); (case m_Row_growth_paper => k_is); (case m_Row_mark_at => k_is); (case m_Row_size => k_is); (case n_Row_entries => k_is); (case n_Row_stamper => k_is)
#print axioms PySem.Challenge.cw_rootstamp_k47_refusals_of_growths_holds

