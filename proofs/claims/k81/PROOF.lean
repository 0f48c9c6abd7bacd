import PyProof.Rows.All
import Wide.All
import OpenK.AllK
import Wide.FinOn
import HandS.ForMost
import HandS.ForExc
import HandS.TryMany
import HandS.Lambda
import HandS.Star
import HandS.Conv
import HandS.Deep
import HandS.TupSets
import HandS.IsInst
import HandS.TupAny
import HandS.Flow
import HandS.Zip
import HandS.CallSlots
import HandS.TupLe
import HandS.TupMul
import HandS.Wide
import HandS.Slots
import HandS.SlotsOwn
import KE.KeyNested
import KE.KDictKeyed
import KE.KTupSum
import HandS.Defaults
import HandS.EndTab
import HandS.ExcSuper
import HandS.ExcField
import KE.KExcSuper
import PyProof.WalksMore
import HandS.Keys
import HandS.HeadHook4
import HandS.Style
import HandS.Dict
import HandS.HeadWalk
import HandS.SetFor
import HandS.Zip0
import PyProof.EnumMake
import HandS.Property
import KE.KDictWalk
import HandS.Iter
import KE.KDictDisplayH
import KE.KDictPairs
import HandS.DictComp
import KE.DataFind
import KE.KIndexOf
import KE.DataMinKey
import PyProof.StrBlock2
import HandS.Head0
import HandS.Head1
import HandS.Head2
import HandS.HeadEnd
import PySem.Challenge.RW_evencoins_k81_errors_of_kings
import KE.KStateDown
import HandS.Ends
import KE.KNestM
section
set_option Elab.async false
set_option linter.all false
set_option maxRecDepth 100000
set_option maxHeartbeats 2000000
/-! VL1: values as data, what represents them, states, the quiet judgements. -/
namespace VL
open PySem PySem.Spec L2
open PyProof.Rows hiding St
/-- a value as data, without addresses -/
inductive D where
  | non | bl (b : Bool) | int (i : Int) | str (x : Str)
  | tup (xs : List D) | tupx (xs : List D) | lst (xs : List D) | dic (ks vs : List D) | obj (c : Nat) (fs : List D) | fn (n : Nat) | exc (c : Nat) (p : D)
/-- no code objects' table -/
def NT (o : HO) : Prop := ∀ ps, o ≠ .tbl ps
/-- never written -/
def Fix : HO → Prop
  | .lst _ => False
  | .dK _ => False
  | .dT _ => False
  | .set _ _ => False
  | .tbl _ => False
  | .ins _ _ _ => False
  | .xd _ => False
  | _ => True
/-- what lies outside F, and what is never written, is kept -/
def Kp (F : Addr → Prop) (H H' : Hp) : Prop := ∀ b o, H b = some o → ((¬ F b ∧ NT o) ∨ Fix o) → H' b = some o
abbrev None' : Addr → Prop := fun _ => False
section
variable {F F' : Addr → Prop} {H H' : Hp}
/-- the change from (F, H) to (F', H') keeps what is represented -/
structure Mv (F F' : Addr → Prop) (H H' : Hp) : Prop where
  kp : Kp F H H'
  nf : ∀ b o, H b = some o → NT o → ¬ F b → ¬ F' b
end
mutual
/-- the key that a value is, where it is one -/
def D.toN : D → Option NestedKey
  | .non => some .none
  | .bl b => some (.num (if b = true then 1 else 0))
  | .int i => some (.num i)
  | .str x => some (.text x)
  | .tup xs => (D.toNs xs).map .tup
  | _ => none
def D.toNs : List D → Option (List NestedKey)
  | [] => some []
  | x :: xs => (D.toN x).bind fun k => (D.toNs xs).map fun ks => k :: ks
end
def keyD : Key → D
  | .inl i => .int i
  | .inr x => .str x
/-- a dict, never written again -/
def DN (a : Addr) (o : Obj) : HO := .ext fun h => h.get? a = some o
/-- its keys, its values -/
def DNo (w : World) (a : Addr) (o : Obj) (xs : List (NestedKey × V × V)) : Prop := (a == sysModules) = false ∧ xs.length ≤ sizeLine ∧ ∃ us : List (NestedKey × Value × Value), Paired (fun p q => p.1 = q.1 ∧ RelV p.2.1 q.2.1 ∧ RelV p.2.2 q.2.2) xs us ∧
  o.ExactDict ∧ ∃ (es : Array DictEntry) (ep : Nat), o.data = .dict es ep ∧ es.toList = us.map (fun x => (⟨x.1.hash w, x.2.1, x.2.2⟩ : DictEntry)) ∧ (us.map (·.1)).Nodup
structure Ctx where
  w : World
  T : List (Addr × Str)
  cls : Nat → Value
  fld : Nat → Option Str
  fnA : Nat → Option Addr
  oc : Nat → Option Addr := fun _ => none
  xs : Option (Addr × Value × Option Addr) := none
/-- a list, a tuple of the written part -/
def WrL (K : PySem.W.Frag) (a : Addr) (xs : List V) : Prop :=
  ∃ (o : Obj) (its : Array Value) (n : Nat), K.lookup a = some o ∧ o.cls = .type "list" ∧ o.dict = none ∧ o.data = .seq its n ∧ its.size ≤ sizeLine ∧ Vals xs its.toList
def LstR (K : PySem.W.Frag) (F : Addr → Prop) (H : Hp) (a : Addr) (xs : List V) : Prop := (Rd H a (.lst xs) ∧ ¬ F a) ∨ WrL K a xs
theorem LstR.sq {K : PySem.W.Frag} {F : Addr → Prop} {H : Hp} {a : Addr} {xs : List V} (h : LstR K F H a xs) : SqL K H a xs := by
  rcases h with ⟨h, _⟩ | h
  · exact .inl h
  · exact .inr h
mutual
inductive Rep (K : PySem.W.Frag) (C : Ctx) (F : Addr → Prop) (H : Hp) : D → V → Prop
  | non : Rep K C F H .non .non
  | bl (b : Bool) : Rep K C F H (.bl b) (.bl b)
  | int (i : Int) : Rep K C F H (.int i) (.int i)
  | str (x : Str) : Rep K C F H (.str x) (.str x)
  | tup {a : Addr} {xs : List V} {ds : List D} : SqT K H a xs → RepL K C F H ds xs → Rep K C F H (.tup ds) (.ref a)
  | tupx {a : Addr} {o : Obj} {xs : List V} {ds : List D} : H a = some (.frz o (.tup xs)) → o.dict = none → RepL K C F H ds xs → Rep K C F H (.tupx ds) (.ref a)
  | lst {a : Addr} {xs : List V} {ds : List D} : LstR K F H a xs → RepL K C F H ds xs → Rep K C F H (.lst ds) (.ref a)
  | dic {a : Addr} {o : Obj} {xs : List (NestedKey × V × V)} {dk dv : List D} : H a = some (DN a o) → DNo C.w a o xs → D.toNs dk = some (xs.map (·.1)) → RepL K C F H dk (xs.map (·.2.1)) → RepL K C F H dv (xs.map (·.2.2)) → Rep K C F H (.dic dk dv) (.ref a)
  | obj {c : Nat} {a cA dx : Addr} {vs : List V} {ds : List D} : C.oc c = some cA → H a = some (SlX.SlO a cA dx (vs.map some)) → ¬ F dx → H dx = some (.xd []) → RepL K C F H ds vs → Rep K C F H (.obj c ds) (.ref a)
  | raw {c : Nat} {a cA dx : Addr} : C.oc c = some cA → H a = some (.ins cA dx []) → ¬ F a → Rep K C F H (.obj c []) (.ref a)
  | fn {n : Nat} {a : Addr} : C.fnA n = some a → Rep K C F H (.fn n) (.ref a)
  | exc {c : Nat} {p : D} {a dd : Addr} {f : Str} {v : V} : C.xs = some (a, C.cls c, some dd) → C.fld c = some f → ¬ F dd → H dd = some (.xd [(f, v)]) → Rep K C F H p v → Rep K C F H (.exc c p) (.ref a)
inductive RepL (K : PySem.W.Frag) (C : Ctx) (F : Addr → Prop) (H : Hp) : List D → List V → Prop
  | nil : RepL K C F H [] []
  | cons {d : D} {ds : List D} {v : V} {vs : List V} : Rep K C F H d v → RepL K C F H ds vs → RepL K C F H (d :: ds) (v :: vs)
end
section
variable {K : PySem.W.Frag} {C : Ctx} {F F' G : Addr → Prop} {H H' H2 : Hp}
theorem NT.lst (xs : List V) : NT (.lst xs) := fun _ z => nomatch z
theorem NT.tup (xs : List V) : NT (.tup xs) := fun _ z => nomatch z
theorem Kp.sqT (k : Kp F H H') {a : Addr} {xs : List V} (h : SqT K H a xs) : SqT K H' a xs := by
  rcases h with (h | ⟨o, h⟩) | h
  · exact .inl (.inl (k _ _ h (.inr trivial)))
  · exact .inl (.inr ⟨o, k _ _ h (.inr trivial)⟩)
  · exact .inr h
theorem Mv.lst (m : Mv F F' H H') {a : Addr} {xs : List V} (h : LstR K F H a xs) : LstR K F' H' a xs := by
  rcases h with ⟨h | ⟨o, h⟩, nf⟩ | h
  · exact .inl ⟨.inl (m.kp _ _ h (.inl ⟨nf, NT.lst _⟩)), m.nf _ _ h (NT.lst _) nf⟩
  · exact .inl ⟨.inr ⟨o, m.kp _ _ h (.inr trivial)⟩, m.nf _ _ h (fun _ z => nomatch z) nf⟩
  · exact .inr h
mutual
theorem Rep.mv (m : Mv F F' H H') : ∀ {d : D} {v : V}, Rep K C F H d v → Rep K C F' H' d v
  | _, _, .non => .non
  | _, _, .bl b => .bl b
  | _, _, .int i => .int i
  | _, _, .str x => .str x
  | _, _, .tup h r => .tup (m.kp.sqT h) (RepL.mv m r)
  | _, _, .tupx h d r => .tupx (m.kp _ _ h (.inr trivial)) d (RepL.mv m r)
  | _, _, .lst h r => .lst (m.lst h) (RepL.mv m r)
  | _, _, .dic h1 h2 h3 r s => .dic (m.kp _ _ h1 (.inr trivial)) h2 h3 (RepL.mv m r) (RepL.mv m s)
  | _, _, .obj h1 h2 h3 h4 r => .obj h1 (m.kp _ _ h2 (.inr trivial)) (m.nf _ _ h4 (fun _ z => nomatch z) h3) (m.kp _ _ h4 (.inl ⟨h3, fun _ z => nomatch z⟩)) (RepL.mv m r)
  | _, _, .raw h1 h2 h3 => .raw h1 (m.kp _ _ h2 (.inl ⟨h3, fun _ z => nomatch z⟩)) (m.nf _ _ h2 (fun _ z => nomatch z) h3)
  | _, _, .fn h => .fn h
  | _, _, .exc h1 h2 h3 h4 r => .exc h1 h2 (m.nf _ _ h4 (fun _ z => nomatch z) h3) (m.kp _ _ h4 (.inl ⟨h3, fun _ z => nomatch z⟩)) (Rep.mv m r)
theorem RepL.mv (m : Mv F F' H H') : ∀ {ds : List D} {vs : List V}, RepL K C F H ds vs → RepL K C F' H' ds vs
  | _, _, .nil => .nil
  | _, _, .cons r t => .cons (Rep.mv m r) (RepL.mv m t)
end
theorem Kp.refl : Kp F H H := fun _ _ h _ => h
theorem Mv.weak (h : ∀ b, F' b → F b) : Mv F F' H H := ⟨Kp.refl, fun _ _ _ _ n z => n (h _ z)⟩
theorem RepL.length : ∀ {ds : List D} {vs : List V}, RepL K C F H ds vs → ds.length = vs.length
  | _, _, .nil => rfl
  | _, _, .cons _ t => congrArg (· + 1) (RepL.length t)
theorem RepL.get : ∀ {ds : List D} {vs : List V} {i : Nat} {d : D}, RepL K C F H ds vs → ds[i]? = some d → ∃ v, vs[i]? = some v ∧ Rep K C F H d v
  | _, _, _, _, .nil, e => by simp at e
  | _, _, 0, _, .cons r _, e => by simp at e; subst e; exact ⟨_, rfl, r⟩
  | _, _, i + 1, d, .cons _ t, e => by
    obtain ⟨v, h1, h2⟩ := RepL.get (i := i) (d := d) t (by simpa using e)
    exact ⟨v, by simpa using h1, h2⟩
theorem RepL.getV : ∀ {ds : List D} {vs : List V} {i : Nat} {v : V}, RepL K C F H ds vs → vs[i]? = some v → ∃ d, ds[i]? = some d ∧ Rep K C F H d v
  | _, _, _, _, .nil, e => by simp at e
  | _, _, 0, _, .cons r _, e => by simp at e; subst e; exact ⟨_, rfl, r⟩
  | _, _, i + 1, d, .cons _ t, e => by
    obtain ⟨v, h1, h2⟩ := RepL.getV (i := i) (v := d) t (by simpa using e)
    exact ⟨v, by simpa using h1, h2⟩
theorem RepL.append : ∀ {ds es : List D} {vs ws : List V}, RepL K C F H ds vs → RepL K C F H es ws → RepL K C F H (ds ++ es) (vs ++ ws)
  | _, _, _, _, .nil, s => s
  | _, _, _, _, .cons r t, s => .cons r (RepL.append t s)
theorem RepL.take : ∀ {ds : List D} {vs : List V} (n : Nat), RepL K C F H ds vs → RepL K C F H (ds.take n) (vs.take n)
  | _, _, 0, _ => .nil
  | _, _, _ + 1, .nil => .nil
  | _, _, n + 1, .cons r t => .cons r (RepL.take n t)
theorem RepL.drop : ∀ {ds : List D} {vs : List V} (n : Nat), RepL K C F H ds vs → RepL K C F H (ds.drop n) (vs.drop n)
  | _, _, 0, r => r
  | _, _, _ + 1, .nil => .nil
  | _, _, n + 1, .cons _ t => RepL.drop n t
theorem RepL.set {d : D} {v : V} (r : Rep K C F H d v) : ∀ {ds : List D} {vs : List V} (i : Nat), RepL K C F H ds vs → RepL K C F H (ds.set i d) (vs.set i v)
  | _, _, _, .nil => .nil
  | _, _, 0, .cons _ t => .cons r t
  | _, _, i + 1, .cons q t => .cons q (RepL.set r i t)
theorem RepL.eraseIdx : ∀ {ds : List D} {vs : List V} (i : Nat), RepL K C F H ds vs → RepL K C F H (ds.eraseIdx i) (vs.eraseIdx i)
  | _, _, _, .nil => .nil
  | _, _, 0, .cons _ t => t
  | _, _, i + 1, .cons q t => .cons q (RepL.eraseIdx i t)
theorem RepL.reverse {ds : List D} {vs : List V} (h : RepL K C F H ds vs) : RepL K C F H ds.reverse vs.reverse := by
  induction h using RepL.rec (motive_1 := fun _ _ _ => True) with
  | nil => exact .nil
  | cons r t _ ih =>
    rw [List.reverse_cons, List.reverse_cons]
    exact ih.append (.cons r .nil)
  | _ => trivial
theorem RepL.rep {ds : List D} {vs : List V} (h : RepL K C F H ds vs) : ∀ k : Nat, RepL K C F H (List.replicate k ds).flatten (List.replicate k vs).flatten
  | 0 => .nil
  | k + 1 => by
    rw [List.replicate_succ, List.replicate_succ, List.flatten_cons, List.flatten_cons]
    exact h.append (RepL.rep h k)
/-- ints -/
theorem RepL.ints : ∀ (ns : List Int), RepL K C F H (ns.map D.int) (ns.map V.int)
  | [] => .nil
  | n :: ns => .cons (.int n) (RepL.ints ns)
theorem RepL.intsV : ∀ {ns : List Int} {vs : List V}, RepL K C F H (ns.map D.int) vs → vs = ns.map V.int
  | [], _, h => by cases h; rfl
  | n :: ns, _, h => by
    cases h with
    | cons r t =>
      cases r
      rw [RepL.intsV t]
      rfl
theorem RepL.blsV : ∀ {bs : List Bool} {vs : List V}, RepL K C F H (bs.map D.bl) vs → vs = bs.map V.bl
  | [], _, h => by cases h; rfl
  | n :: ns, _, h => by
    cases h with
    | cons r t =>
      cases r
      rw [RepL.blsV t]
      rfl
end
/-! ### states -/
inductive Sl where
  | no
  | v (d : D)
  | o (xs : List D)
  | w (es : List (List Key × D))
abbrev Rho := List Sl
/-- what is owned by the callers, and here -/
def Fb (A : Addr → Prop) (α : Nat → Option Addr) : Addr → Prop := fun a => A a ∨ ∃ i, α i = some a
def SlR (K : PySem.W.Frag) (C : Ctx) (F : Addr → Prop) (H : Hp) (ai : Option Addr) (s : Sl) (x : Option (Option V)) : Prop := match s with
  | .no => ai = none
  | .v d => ai = none ∧ ∃ v, x = some (some v) ∧ Rep K C F H d v
  | .o ds => ∃ a vs, ai = some a ∧ x = some (some (.ref a)) ∧ H a = some (.lst vs) ∧ RepL K C F H ds vs
  | .w es => ∃ (a : Addr) (kvs : List (List Key × V)), ai = some a ∧ x = some (some (.ref a)) ∧ H a = some (.dT kvs) ∧ es.map (·.1) = kvs.map (·.1) ∧ RepL K C F H (es.map (·.2)) (kvs.map (·.2))
structure SR (K : PySem.W.Frag) (C : Ctx) (A : Addr → Prop) (α : Nat → Option Addr) (ρ : Rho) (σ : St) (H : Hp) : Prop where
  len : ρ.length = σ.length
  inj : ∀ i j a, α i = some a → α j = some a → i = j
  out : ∀ i, ρ.length ≤ i → α i = none
  sl : ∀ i s, ρ[i]? = some s → SlR K C (Fb A α) H (α i) s σ[i]?
  dom : ∀ a, A a → ∃ o, H a = some o ∧ NT o
  na : ∀ i a, α i = some a → ¬ A a
  tabs : LamX.Tabs C.T H
/-- growth: all that was tracked is kept (tables grow) -/
structure Gro (C : Ctx) (H H' : Hp) : Prop where
  kp : Kp None' H H'
  tb : LamX.Tabs C.T H → LamX.Tabs C.T H'
  nn : ∀ b, H' b = none → H b = none
section
variable {K : PySem.W.Frag} {C : Ctx} {A : Addr → Prop} {α α' : Nat → Option Addr} {ρ ρ' : Rho} {σ σ' : St} {H H' H2 : Hp} {F F' : Addr → Prop}
theorem Gro.refl : Gro C H H := ⟨Kp.refl, fun h => h, fun _ h => h⟩
theorem Kp.trans0 (a : Kp None' H H') (b : Kp None' H' H2) : Kp None' H H2 := fun c o h n =>
  b c o (a c o h n) n
theorem Gro.trans (a : Gro C H H') (b : Gro C H' H2) : Gro C H H2 := ⟨a.kp.trans0 b.kp, fun h => b.tb (a.tb h), fun c h => a.nn c (b.nn c h)⟩
theorem Kp.any (a : Kp None' H H') {b : Addr} {o : HO} (h : H b = some o) (n : NT o) : H' b = some o := a b o h (.inl ⟨id, n⟩)
theorem Kp.to (a : Kp None' H H') : Kp F H H' := fun b o h n => a b o h (n.elim (fun n => .inl ⟨id, n.2⟩) .inr)
theorem Gro.mv (g : Gro C H H') : Mv F F H H' := ⟨g.kp.to, fun _ _ _ _ n => n⟩
theorem Gro.of {C : Ctx} (e : ∀ b o, H b = some o → H' b = some o) : Gro C H H' := ⟨fun b u q _ => e b u q, fun t => t.ext e, fun b h => by
  cases q : H b with
  | none => rfl
  | some o => rw [e b o q] at h; cases h⟩
theorem Gro.new {p : Addr} {o : HO} (h : H p = none) : Gro C H (upd H p o) := by
  have e : ∀ b u, H b = some u → upd H p o b = some u := fun b u q => by rw [upd_ne (ne_of_none q h)]; exact q
  exact Gro.of e
theorem SlR.grow (g : Gro C H H') {ai : Option Addr} {s : Sl} {x : Option (Option V)} (h : SlR K C F H ai s x) : SlR K C F H' ai s x := by
  cases s with
  | no => exact h
  | v d => obtain ⟨e, v, e2, r⟩ := h; exact ⟨e, v, e2, r.mv g.mv⟩
  | o ds => obtain ⟨a, vs, e1, e2, e3, r⟩ := h; exact ⟨a, vs, e1, e2, g.kp.any e3 (NT.lst _), r.mv g.mv⟩
  | w es => obtain ⟨a, vs, e1, e2, e3, e4, r⟩ := h; exact ⟨a, vs, e1, e2, g.kp.any e3 (fun _ z => nomatch z), e4, r.mv g.mv⟩
theorem SR.grow (g : Gro C H H') (s : SR K C A α ρ σ H) : SR K C A α ρ σ H' :=
  ⟨s.len, s.inj, s.out, fun i x h => (s.sl i x h).grow g, fun a h => let ⟨o, e, n⟩ := s.dom a h; ⟨o, g.kp.any e n, n⟩, s.na, g.tb s.tabs⟩
theorem SR.own (s : SR K C A α ρ σ H) {i : Nat} {a : Addr} (h : α i = some a) : σ[i]? = some (some (.ref a)) ∧ ∃ o, H a = some o ∧ NT o ∧ ((∃ vs, o = .lst vs) ∨ ∃ kvs, o = .dT kvs) := by
  cases e : ρ[i]? with
  | none =>
    have q := s.out i (List.getElem?_eq_none_iff.mp e)
    rw [h] at q; cases q
  | some x =>
    have q := s.sl i x e
    cases x with
    | no => rw [show α i = none from q] at h; cases h
    | v d => rw [q.1] at h; cases h
    | o ds =>
      obtain ⟨a', vs, e1, e2, e3, r⟩ := q
      rw [h] at e1; cases e1
      exact ⟨e2, _, e3, NT.lst _, .inl ⟨_, rfl⟩⟩
    | w es =>
      obtain ⟨a', vs, e1, e2, e3, _, r⟩ := q
      rw [h] at e1; cases e1
      exact ⟨e2, _, e3, (fun _ z => nomatch z), .inr ⟨_, rfl⟩⟩
/-- what is owned stands -/
theorem SR.dm (s : SR K C A α ρ σ H) : ∀ a, Fb A α a → ∃ o, H a = some o ∧ NT o := fun a h => by
  rcases h with h | ⟨i, h⟩
  · exact s.dom a h
  · obtain ⟨_, o, e, n, _⟩ := s.own h
    exact ⟨o, e, n⟩
theorem SR.new {p : Addr} (s : SR K C A α ρ σ H) (h : H p = none) : ¬ Fb A α p := fun z => by
  obtain ⟨o, e, _⟩ := s.dm p z
  rw [h] at e; cases e
theorem SR.var (s : SR K C A α ρ σ H) {i : Nat} {d : D} (h : ρ[i]? = some (.v d)) : ∃ v, σ[i]? = some (some v) ∧ Rep K C (Fb A α) H d v := (s.sl i _ h).2
end
end VL
end
section
set_option Elab.async false
set_option linter.all false
set_option maxRecDepth 100000
set_option maxHeartbeats 2000000
/-! VL2: quiet expressions: what an expression computes of the slots, nothing changed. -/
namespace VL
open PySem PySem.Spec L2
open PyProof.Rows hiding St
abbrev DmF (F : Addr → Prop) (H : Hp) : Prop := ∀ a, F a → ∃ o, H a = some o ∧ NT o
/-- as Rep, but the list itself may be an owned one -/
def RepB (K : PySem.W.Frag) (C : Ctx) (F : Addr → Prop) (H : Hp) (d : D) (v : V) : Prop :=
  Rep K C F H d v ∨ ∃ a vs ds, d = .lst ds ∧ v = .ref a ∧ H a = some (.lst vs) ∧ RepL K C F H ds vs
inductive RepBL (K : PySem.W.Frag) (C : Ctx) (F : Addr → Prop) (H : Hp) : List D → List V → Prop
  | nil : RepBL K C F H [] []
  | cons {d : D} {ds : List D} {v : V} {vs : List V} : RepB K C F H d v → RepBL K C F H ds vs → RepBL K C F H (d :: ds) (v :: vs)
section
variable {K : PySem.W.Frag} {C : Ctx} {F : Addr → Prop} {H H' : Hp} {v : V}
theorem RepB.grow (g : Gro C H H') {d : D} (h : RepB K C F H d v) : RepB K C F H' d v := by
  rcases h with h | ⟨a, vs, ds, e1, e2, e3, r⟩
  · exact .inl (h.mv g.mv)
  · exact .inr ⟨a, vs, ds, e1, e2, g.kp.any e3 (NT.lst _), r.mv g.mv⟩
theorem RepBL.grow (g : Gro C H H') : ∀ {ds : List D} {vs : List V}, RepBL K C F H ds vs → RepBL K C F H' ds vs
  | _, _, .nil => .nil
  | _, _, .cons r t => .cons (r.grow g) (RepBL.grow g t)
theorem RepBL.of : ∀ {ds : List D} {vs : List V}, RepL K C F H ds vs → RepBL K C F H ds vs
  | _, _, .nil => .nil
  | _, _, .cons r t => .cons (.inl r) (RepBL.of t)
theorem Rep.lstI {ds : List D} (h : Rep K C F H (.lst ds) v) : ∃ a vs, v = .ref a ∧ LstR K F H a vs ∧ RepL K C F H ds vs := by
  cases h with | lst h r => exact ⟨_, _, rfl, h, r⟩
theorem Rep.tupI {ds : List D} (h : Rep K C F H (.tup ds) v) : ∃ a vs, v = .ref a ∧ SqT K H a vs ∧ RepL K C F H ds vs := by
  cases h with | tup h r => exact ⟨_, _, rfl, h, r⟩
theorem Rep.tupxI {ds : List D} (h : Rep K C F H (.tupx ds) v) : ∃ a vs, v = .ref a ∧ SqT K H a vs ∧ RepL K C F H ds vs ∧ ∃ o, H a = some (.frz o (.tup vs)) ∧ o.dict = none := by
  cases h with | tupx h d r => exact ⟨_, _, rfl, .inl (.inr ⟨_, h⟩), r, _, h, d⟩
theorem Rep.dicI {dk dv : List D} (h : Rep K C F H (.dic dk dv) v) : ∃ a o xs, v = .ref a ∧ H a = some (DN a o) ∧ DNo C.w a o xs ∧ D.toNs dk = some (xs.map (·.1)) ∧ RepL K C F H dk (xs.map (·.2.1)) ∧ RepL K C F H dv (xs.map (·.2.2)) := by
  cases h with | dic h g e r s => exact ⟨_, _, _, rfl, h, g, e, r, s⟩
theorem DNo.exact {w : World} {a : Addr} {o : Obj} {xs : List (NestedKey × V × V)} (h : DNo w a o xs) : o.ExactDict := let ⟨_, _, _, _, g, _⟩ := h; g
theorem RepB.lstI {ds : List D} (h : RepB K C F H (.lst ds) v) : ∃ a vs, v = .ref a ∧ SqL K H a vs ∧ RepL K C F H ds vs := by
  rcases h with h | ⟨a, vs, ds, e1, e2, e3, r⟩
  · obtain ⟨a, vs, e, l, r⟩ := h.lstI
    exact ⟨a, vs, e, l.sq, r⟩
  · cases e1
    exact ⟨a, vs, e2, SqL.of e3, r⟩
theorem RepB.tupI {ds : List D} (h : RepB K C F H (.tup ds) v) : ∃ a vs, v = .ref a ∧ SqT K H a vs ∧ RepL K C F H ds vs := by
  rcases h with h | ⟨_, _, _, e1, _⟩
  · exact h.tupI
  · cases e1
theorem RepB.intI {i : Int} (h : RepB K C F H (.int i) v) : v = .int i := by
  rcases h with h | ⟨_, _, _, e1, _⟩
  · cases h; rfl
  · cases e1
theorem RepB.blI {i : Bool} (h : RepB K C F H (.bl i) v) : v = .bl i := by
  rcases h with h | ⟨_, _, _, e1, _⟩
  · cases h; rfl
  · cases e1
theorem RepB.strI {i : Str} (h : RepB K C F H (.str i) v) : v = .str i := by
  rcases h with h | ⟨_, _, _, e1, _⟩
  · cases h; rfl
  · cases e1
theorem RepB.nonI (h : RepB K C F H .non v) : v = .non := by
  rcases h with h | ⟨_, _, _, e1, _⟩
  · cases h; rfl
  · cases e1
theorem RepB.notL {d : D} (h : RepB K C F H d v) (n : ∀ ds, d ≠ .lst ds) : Rep K C F H d v := by
  rcases h with h | ⟨_, _, ds, e1, _⟩
  · exact h
  · exact absurd e1 (n ds)
/-- what is new is nobody's -/
theorem DmF.new {p : Addr} (m : DmF F H) (h : H p = none) : ¬ F p := fun z => by
  obtain ⟨o, e, _⟩ := m p z
  rw [h] at e; cases e
theorem DmF.grow (g : Gro C H H') (m : DmF F H) : DmF F H' := fun a h => let ⟨o, e, n⟩ := m a h; ⟨o, g.kp.any e n, n⟩
/-- .. and a further one -/
def Ad (F : Addr → Prop) (a : Addr) : Addr → Prop := fun b => F b ∨ b = a
theorem mvNew {p : Addr} {o : HO} (h : H p = none) : Mv F (Ad F p) H (upd H p o) := ⟨fun b u q _ => by rw [upd_ne (ne_of_none q h)]; exact q, fun b u e _ nf z => z.elim nf fun z => by rw [z, h] at e; cases e⟩
theorem mvAd {p : Addr} : Mv (Ad F p) F H H := Mv.weak fun _ z => .inl z
theorem repNewT {ds : List D} {vs : List V} {p : Addr} (h : H p = none) (r : RepL K C F H ds vs) : Rep K C F (upd H p (.tup vs)) (.tup ds) (.ref p) :=
  .tup (SqT.of upd_same) (r.mv (Gro.new (C := C) h).mv)
theorem repNewL {ds : List D} {vs : List V} {p : Addr} (m : DmF F H) (h : H p = none) (r : RepL K C F H ds vs) : Rep K C F (upd H p (.lst vs)) (.lst ds) (.ref p) :=
  .lst (.inl ⟨.inl upd_same, m.new h⟩) (r.mv (Gro.new (C := C) h).mv)
end
/-! ### the readings -/
def rdQ (K : PySem.W.Frag) (C : Ctx) (f : Rho → Option D) : TE := fun σ H Q => ∃ A α ρ d, SR K C A α ρ σ H ∧ f ρ = some d ∧ ∀ v H', Gro C H H' → Rep K C (Fb A α) H' d v → Q v H'
def rdB (K : PySem.W.Frag) (C : Ctx) (f : Rho → Option D) : TE := fun σ H Q => ∃ A α ρ d, SR K C A α ρ σ H ∧ f ρ = some d ∧ ∀ v H', Gro C H H' → RepB K C (Fb A α) H' d v → Q v H'
/-- a new list -/
def rdF (K : PySem.W.Frag) (C : Ctx) (f : Rho → Option (List D)) : TE := fun σ H Q => ∃ A α ρ ds, SR K C A α ρ σ H ∧ f ρ = some ds ∧ ∀ a vs H', Gro C H H' → H a = none → H' a = some (.lst vs) → RepL K C (Ad (Fb A α) a) H' ds vs → Q (.ref a) H'
def rdT (K : PySem.W.Frag) (C : Ctx) (f : Rho → Option Bool) : TT := fun σ H Q => ∃ A α ρ b, SR K C A α ρ σ H ∧ f ρ = some b ∧ ∀ H', Gro C H H' → Q b H'
def rdA (K : PySem.W.Frag) (C : Ctx) (f : Rho → Option (List D)) : TA := fun σ H Q => ∃ A α ρ ds, SR K C A α ρ σ H ∧ f ρ = some ds ∧ ∀ vs H', Gro C H H' → RepL K C (Fb A α) H' ds vs → Q vs H'
def rdAB (K : PySem.W.Frag) (C : Ctx) (f : Rho → Option (List D)) : TA := fun σ H Q => ∃ A α ρ ds, SR K C A α ρ σ H ∧ f ρ = some ds ∧ ∀ vs H', Gro C H H' → RepBL K C (Fb A α) H' ds vs → Q vs H'
abbrev QE (X : Cx) (C : Ctx) (e : Expr) (f : Rho → Option D) : Prop := PE X e (rdQ X.K C f)
abbrev BE (X : Cx) (C : Ctx) (e : Expr) (f : Rho → Option D) : Prop := PE X e (rdB X.K C f)
abbrev FE (X : Cx) (C : Ctx) (e : Expr) (f : Rho → Option (List D)) : Prop := PE X e (rdF X.K C f)
abbrev QT (X : Cx) (C : Ctx) (e : Expr) (f : Rho → Option Bool) : Prop := PT X e (rdT X.K C f)
abbrev QW (X : Cx) (C : Ctx) (e : Expr) (f : Rho → Option Bool) : Prop := PW X e (rdT X.K C f)
structure QA (X : Cx) (C : Ctx) (es : List Expr) (f : Rho → Option (List D)) : Prop where
  pa : PA X es (rdA X.K C f)
  len : ∀ ρ ds, f ρ = some ds → ds.length = es.length
abbrev BA (X : Cx) (C : Ctx) (es : List Expr) (f : Rho → Option (List D)) : Prop := PA X es (rdAB X.K C f)
section
variable {X : Cx} {C : Ctx} {e a b c : Expr} {es : List Expr} {pos : Pos}
theorem wkE {t t' : TE} (h : PE X e t') (i : ∀ σ H Q, t σ H Q → t' σ H Q) : PE X e t := ⟨fun pins s σ H Q I q => h.run pins s σ H Q I (i σ H Q q)⟩
theorem wkT {t t' : TT} (h : PT X e t') (i : ∀ σ H Q, t σ H Q → t' σ H Q) : PT X e t := ⟨fun pins s σ H Q I q => h.run pins s σ H Q I (i σ H Q q)⟩
theorem wkW {t t' : TT} (h : PW X e t') (i : ∀ σ H Q, t σ H Q → t' σ H Q) : PW X e t := ⟨fun wh pins s σ H Q I q => h.run wh pins s σ H Q I (i σ H Q q)⟩
theorem wkA {t t' : TA} (h : PA X es t') (i : ∀ σ H Q, t σ H Q → t' σ H Q) : PA X es t := ⟨fun p pins s σ H Q I q => h.run p pins s σ H Q I (i σ H Q q)⟩
theorem wkS {st : Stmt} {t t' : TS} (h : PS X st t') (i : ∀ D σ H, t D σ H → t' D σ H) : PS X st t := ⟨fun pins s σ H D I q => h.run pins s σ H D I (i D σ H q)⟩
theorem wkSs {st : List Stmt} {t t' : TS} (h : PSs X st t') (i : ∀ D σ H, t D σ H → t' D σ H) : PSs X st t := ⟨fun pins s σ H D I q => h.run pins s σ H D I (i D σ H q)⟩
/-! ### changing kinds -/
variable {f fa fb fc : Rho → Option D} {g : Rho → Option (List D)}
theorem be_q (h : QE X C e f) : BE X C e f := wkE h fun σ H Q ⟨A, α, ρ, d, s, e, q⟩ => ⟨A, α, ρ, d, s, e, fun v H' g r => q v H' g (.inl r)⟩
def lstO (o : Option (List D)) : Option D := o.map D.lst
theorem lstO_some {o : Option (List D)} {d : D} (h : lstO o = some d) : ∃ ds, o = some ds ∧ d = .lst ds := by
  cases o with
  | none => cases h
  | some ds => cases h; exact ⟨ds, rfl, rfl⟩
theorem qe_f (h : FE X C e g) : QE X C e (fun ρ => lstO (g ρ)) := wkE h fun σ H Q ⟨A, α, ρ, d, s, e, q⟩ => by
  obtain ⟨ds, e1, rfl⟩ := lstO_some e
  exact ⟨A, α, ρ, ds, s, e1, fun a vs H' g n l r => q _ H' g (.lst (.inl ⟨.inl l, s.new n⟩) (r.mv mvAd))⟩
theorem be_f (h : FE X C e g) : BE X C e (fun ρ => lstO (g ρ)) := be_q (qe_f h)
/-! ### names and constants -/
def qC (d : D) : Rho → Option D := fun _ => some d
def qV (i : Nat) : Rho → Option D := fun ρ => match ρ[i]? with
  | some (.v d) => some d
  | _ => none
def qB (i : Nat) : Rho → Option D := fun ρ => match ρ[i]? with
  | some (.v d) => some d
  | some (.o ds) => some (.lst ds)
  | _ => none
theorem qV_some {i : Nat} {ρ : Rho} {d : D} (h : qV i ρ = some d) : ρ[i]? = some (.v d) := by
  unfold qV at h
  split at h
  · cases h; assumption
  · cases h
theorem qe_int {i j pos} : QE X C (.Constant (.int i) j pos) (qC (.int i)) := wkE pe_int fun σ H Q ⟨A, α, ρ, d, s, e, q⟩ => by
  cases e
  exact q _ H Gro.refl (.int _)
theorem qe_bl {i j pos} : QE X C (.Constant (.bool i) j pos) (qC (.bl i)) := wkE pe_bl fun σ H Q ⟨A, α, ρ, d, s, e, q⟩ => by
  cases e
  exact q _ H Gro.refl (.bl _)
theorem qe_non {j pos} : QE X C (.Constant .none j pos) (qC .non) := wkE pe_non fun σ H Q ⟨A, α, ρ, d, s, e, q⟩ => by
  cases e
  exact q _ H Gro.refl .non
theorem qe_str {i j pos} : QE X C (.Constant (.str i) j pos) (qC (.str i)) := wkE pe_str fun σ H Q ⟨A, α, ρ, d, s, e, q⟩ => by
  cases e
  exact q _ H Gro.refl (.str _)
theorem qe_var (i : Nat) {x : Str} (hN : X.N[i]? = some x := by rfl) (hv : Vis X.env.scope x := by first | exact Or.inl rfl | exact Or.inr (Or.inl rfl) | exact Or.inr (Or.inr rfl)) (hd : (x == ("__debug__" : Str)) = false := by decide)
    (hcd : (x == ("__classdict__" : Str)) = false := by decide) : QE X C (.Name x pos) (qV i) := wkE (pe_var (i := i) hN hv hd hcd) fun σ H Q ⟨A, α, ρ, d, s, e, q⟩ => by
  obtain ⟨v, e1, r⟩ := s.var (qV_some e)
  exact ⟨v, e1, q v H Gro.refl r⟩
theorem be_var (i : Nat) {x : Str} (hN : X.N[i]? = some x := by rfl) (hv : Vis X.env.scope x := by first | exact Or.inl rfl | exact Or.inr (Or.inl rfl) | exact Or.inr (Or.inr rfl)) (hd : (x == ("__debug__" : Str)) = false := by decide)
    (hcd : (x == ("__classdict__" : Str)) = false := by decide) : BE X C (.Name x pos) (qB i) := wkE (pe_var (i := i) hN hv hd hcd) fun σ H Q ⟨A, α, ρ, d, s, e, q⟩ => by
  unfold qB at e
  split at e
  · cases e
    obtain ⟨v, e1, r⟩ := s.var (by assumption)
    exact ⟨v, e1, q v H Gro.refl (.inl r)⟩
  · cases e
    obtain ⟨a, vs, e0, e1, e2, r⟩ := s.sl i _ (by assumption)
    exact ⟨_, e1, q _ H Gro.refl (.inr ⟨a, vs, _, rfl, rfl, e2, r⟩)⟩
  · cases e
/-- a module's constant -/
theorem qe_glob {x : Str} {v : V} {u : Value} {d : D} (hg : Gl X x) (hm : X.mg x = some u) (r : RelV v u) (rep : ∀ F H, Rep X.K C F H d v) (hd : (x == ("__debug__" : Str)) = false := by decide) : QE X C (.Name x pos) (qC d) :=
  wkE (pe_glob hg hm r hd) fun σ H Q ⟨A, α, ρ, d, s, e, q⟩ => by
    cases e
    exact q v H Gro.refl (rep _ _)
/-! ### operators -/
abbrev O2 := D → D → Option D
def OpQ (X : Cx) (C : Ctx) (f : Value → Value → Sem Value) (sem : O2) : Prop :=
  OpR X f (fun x y H Q => ∃ F d e r, DmF F H ∧ RepB X.K C F H d x ∧ RepB X.K C F H e y ∧ sem d e = some r ∧ ∀ v H', Gro C H H' → Rep X.K C F H' r v → Q v H')
theorem OpR.wk {f : Value → Value → Sem Value} {r r' : R2} (h : OpR X f r) (i : ∀ x y H Q, r' x y H Q → r x y H Q) : OpR X f r' := fun pins s σ H x y v u Q I r1 r2 q => h pins s σ H x y v u Q I r1 r2 (i x y H Q q)
def q2 (sem : O2) (fa fb : Rho → Option D) : Rho → Option D := fun ρ => (fa ρ).bind fun x => (fb ρ).bind fun y => sem x y
theorem bind_some {α β : Type} {o : Option α} {k : α → Option β} {b : β} (h : o.bind k = some b) : ∃ a, o = some a ∧ k a = some b := by
  cases o with
  | none => cases h
  | some a => exact ⟨a, rfl, h⟩
theorem op_rd {f : Value → Value → Sem Value} {sem : O2} {σ : L2.St} {H : Hp} {Q : VK} (h : rdQ X.K C (q2 sem fa fb) σ H Q) :
    tOp (fun x y H Q => ∃ F d e r, DmF F H ∧ RepB X.K C F H d x ∧ RepB X.K C F H e y ∧ sem d e = some r ∧ ∀ v H', Gro C H H' → Rep X.K C F H' r v → Q v H') (rdB X.K C fa) (rdB X.K C fb) σ H Q := by
  obtain ⟨A, α, ρ, d, s, e, q⟩ := h
  obtain ⟨x, e1, e⟩ := bind_some e
  obtain ⟨y, e2, e⟩ := bind_some e
  refine ⟨A, α, ρ, x, s, e1, fun v H1 g1 r1 => ⟨A, α, ρ, y, s.grow g1, e2, fun u H2 g2 r2 => ?_⟩⟩
  exact ⟨Fb A α, x, y, d, (s.grow (g1.trans g2)).dm, r1.grow g2, r2, e, fun v H' g3 r3 => q v H' (g1.trans (g2.trans g3)) r3⟩
theorem qe_op {op : Operator} {sem : O2} (ho : OpQ X C (binaryOp op) sem) (ha : BE X C a fa) (hb : BE X C b fb) : QE X C (.BinOp a op b pos) (q2 sem fa fb) :=
  wkE (pe_op ho ha hb) fun σ H Q h => op_rd (f := binaryOp op) h
theorem qe_cmp {op : CmpOp} {sem : O2} (ho : OpQ X C (compareOp op) sem) (ha : BE X C a fa) (hb : BE X C b fb) (hm : behindInMarks op b = false) : QE X C (.Compare a [op] [b] pos) (q2 sem fa fb) :=
  wkE (pe_cmpR ho ha hb hm) fun σ H Q h => op_rd (f := compareOp op) h
def blO : D → Option Bool
  | .bl b => some b
  | _ => none
theorem blO_some {d : D} {b : Bool} (h : blO d = some b) : d = .bl b := by
  cases d <;> first | (cases h; rfl) | cases h
/-- a op1 b op2 c -/
def qChain (s1 s2 : O2) (fa fb fc : Rho → Option D) : Rho → Option D := fun ρ => (fa ρ).bind fun x => (fb ρ).bind fun y => (s1 x y).bind fun k => (blO k).bind fun t => if t then (fc ρ).bind fun z => s2 y z else some (.bl false)
theorem qe_chain {op op' : CmpOp} {s1 s2 : O2} (ho : OpQ X C (compareOp op) s1) (ho' : OpQ X C (compareOp op') s2) (ha : BE X C a fa) (hb : BE X C b fb) (hc : BE X C c fc)
    (hm : lastMarks [op, op'] [b, c] = false := by with_unfolding_all rfl) : QE X C (.Compare a [op, op'] [b, c] pos) (qChain s1 s2 fa fb fc) :=
  wkE (pe_chain ho ho' ha hb hc hm) fun σ H Q h => by
    obtain ⟨A, α, ρ, d, s, e, q⟩ := h
    obtain ⟨x, e1, e⟩ := bind_some e
    obtain ⟨y, e2, e⟩ := bind_some e
    obtain ⟨k, e3, e⟩ := bind_some e
    obtain ⟨t, e4, e⟩ := bind_some e
    have e4 := blO_some e4
    subst e4
    refine ⟨A, α, ρ, x, s, e1, fun v H1 g1 r1 => ⟨A, α, ρ, y, s.grow g1, e2, fun u H2 g2 r2 => ?_⟩⟩
    refine ⟨Fb A α, x, y, .bl t, (s.grow (g1.trans g2)).dm, r1.grow g2, r2, e3, fun v H3 g3 r3 => ?_⟩
    cases r3
    refine ⟨t, rfl, ?_⟩
    cases t with
    | false =>
      cases e
      exact q _ _ (g1.trans (g2.trans g3)) (.bl _)
    | true =>
      obtain ⟨z, e5, e⟩ := bind_some (show ((fc ρ).bind fun z => s2 y z) = some d from e)
      have s3 := s.grow (g1.trans (g2.trans g3))
      exact ⟨A, α, ρ, z, s3, e5, fun w H4 g4 r4 => ⟨Fb A α, y, z, d, (s3.grow g4).dm, r2.grow (g3.trans g4), r4, e, fun v H' g5 r5 => q v H' (g1.trans (g2.trans (g3.trans (g4.trans g5)))) r5⟩⟩
/-! ### and, or, not, if-else as values -/
def qAnd (fa fb : Rho → Option D) : Rho → Option D := fun ρ => (fa ρ).bind fun x => (blO x).bind fun t => if t then fb ρ else some (.bl false)
def qOr (fa fb : Rho → Option D) : Rho → Option D := fun ρ => (fa ρ).bind fun x => (blO x).bind fun t => if t then some (.bl true) else fb ρ
def qNot (fa : Rho → Option D) : Rho → Option D := fun ρ => (fa ρ).bind fun x => (blO x).map fun t => .bl (!t)
theorem qe_one {op} (h : QE X C a fa) : QE X C (.BoolOp op [a] pos) fa := pe_one h
theorem qe_and {rest : List Expr} (ha : QE X C a fa) (hb : QE X C (.BoolOp .And (b :: rest) pos) fb) : QE X C (.BoolOp .And (a :: b :: rest) pos) (qAnd fa fb) :=
  wkE (pe_and ha hb) fun σ H Q h => by
    obtain ⟨A, α, ρ, d, s, e, q⟩ := h
    obtain ⟨x, e1, e⟩ := bind_some e
    obtain ⟨t, e2, e⟩ := bind_some e
    have e2 := blO_some e2
    subst e2
    refine ⟨A, α, ρ, _, s, e1, fun v H1 g1 r1 => ?_⟩
    cases r1
    refine ⟨t, rfl, ?_⟩
    cases t with
    | false => cases e; exact q _ _ g1 (.bl _)
    | true => exact ⟨A, α, ρ, d, s.grow g1, e, fun v H' g2 r2 => q v H' (g1.trans g2) r2⟩
theorem qe_or {rest : List Expr} (ha : QE X C a fa) (hb : QE X C (.BoolOp .Or (b :: rest) pos) fb) : QE X C (.BoolOp .Or (a :: b :: rest) pos) (qOr fa fb) :=
  wkE (pe_or ha hb) fun σ H Q h => by
    obtain ⟨A, α, ρ, d, s, e, q⟩ := h
    obtain ⟨x, e1, e⟩ := bind_some e
    obtain ⟨t, e2, e⟩ := bind_some e
    have e2 := blO_some e2
    subst e2
    refine ⟨A, α, ρ, _, s, e1, fun v H1 g1 r1 => ?_⟩
    cases r1
    refine ⟨t, rfl, ?_⟩
    cases t with
    | true => cases e; exact q _ _ g1 (.bl _)
    | false => exact ⟨A, α, ρ, d, s.grow g1, e, fun v H' g2 r2 => q v H' (g1.trans g2) r2⟩
theorem qe_not (ha : QE X C a fa) : QE X C (.UnaryOp .Not a pos) (qNot fa) :=
  wkE (pe_not ha) fun σ H Q h => by
    obtain ⟨A, α, ρ, d, s, e, q⟩ := h
    obtain ⟨x, e1, e⟩ := bind_some e
    cases hb : blO x with
    | none => rw [hb] at e; cases e
    | some t =>
      rw [hb] at e
      have e2 := blO_some hb
      subst e2
      cases e
      refine ⟨A, α, ρ, _, s, e1, fun v H1 g1 r1 => ?_⟩
      cases r1
      exact ⟨t, rfl, q _ _ g1 (.bl _)⟩
/-! ### tests -/
def tV (fa : Rho → Option D) : Rho → Option Bool := fun ρ => (fa ρ).bind blO
theorem qt_val (h : QE X C e fa) (he : ∀ whole, isTrue e X.env whole = (do let v ← whole; standAt e.pos; holding [v] (truthy v)) := by intro _; rfl) : QT X C e (tV fa) :=
  wkT (pt_val h he) fun σ H Q h => by
    obtain ⟨A, α, ρ, d, s, e, q⟩ := h
    obtain ⟨x, e1, e⟩ := bind_some e
    have e2 := blO_some e
    subst e2
    refine ⟨A, α, ρ, _, s, e1, fun v H1 g1 r1 => ?_⟩
    cases r1
    exact ⟨_, rfl, q _ g1⟩
theorem qt_cmp {op : CmpOp} {sem : O2} (ho : OpQ X C (compareOp op) sem) (ha : BE X C a fa) (hb : BE X C b fb) (hm : behindInMarks op b = false) : QT X C (.Compare a [op] [b] pos) (tV (q2 sem fa fb)) :=
  wkT (pt_cmpR ho ha hb hm) fun σ H Q h => by
    obtain ⟨A, α, ρ, d, s, e, q⟩ := h
    obtain ⟨x, e1, e⟩ := bind_some e
    have e2 := blO_some e
    subst e2
    refine op_rd (f := compareOp op) ⟨A, α, ρ, _, s, e1, fun v H1 g1 r1 => ?_⟩
    cases r1
    exact ⟨_, rfl, q _ g1⟩
theorem qt_chain {op op' : CmpOp} {s1 s2 : O2} (ho : OpQ X C (compareOp op) s1) (ho' : OpQ X C (compareOp op') s2) (ha : BE X C a fa) (hb : BE X C b fb) (hc : BE X C c fc)
    (hm : lastMarks [op, op'] [b, c] = false := by with_unfolding_all rfl) : QT X C (.Compare a [op, op'] [b, c] pos) (tV (qChain s1 s2 fa fb fc)) :=
  wkT (pt_chain ho ho' ha hb hc hm) fun σ H Q h => by
    obtain ⟨A, α, ρ, d, s, e, q⟩ := h
    obtain ⟨w, e1, e0⟩ := bind_some e
    have e2 := blO_some e0
    subst e2
    obtain ⟨x, e1, e⟩ := bind_some e1
    obtain ⟨y, e2, e⟩ := bind_some e
    obtain ⟨k, e3, e⟩ := bind_some e
    obtain ⟨t, e4, e⟩ := bind_some e
    have e4 := blO_some e4
    subst e4
    refine ⟨A, α, ρ, x, s, e1, fun v H1 g1 r1 => ⟨A, α, ρ, y, s.grow g1, e2, fun u H2 g2 r2 => ?_⟩⟩
    refine ⟨Fb A α, x, y, .bl t, (s.grow (g1.trans g2)).dm, r1.grow g2, r2, e3, fun v H3 g3 r3 => ?_⟩
    cases r3
    refine ⟨t, rfl, ?_⟩
    cases t with
    | false =>
      cases e
      exact ⟨_, rfl, q _ (g1.trans (g2.trans g3))⟩
    | true =>
      obtain ⟨z, e5, e⟩ := bind_some (show ((fc ρ).bind fun z => s2 y z) = some (.bl d) from e)
      have s3 := s.grow (g1.trans (g2.trans g3))
      refine ⟨A, α, ρ, z, s3, e5, fun w H4 g4 r4 => ⟨Fb A α, y, z, .bl d, (s3.grow g4).dm, r2.grow (g3.trans g4), r4, e, fun v H' g5 r5 => ?_⟩⟩
      cases r5
      exact ⟨_, rfl, q _ (g1.trans (g2.trans (g3.trans (g4.trans g5))))⟩
def tAn (s t : Rho → Option Bool) : Rho → Option Bool := fun ρ => (s ρ).bind fun b => if b then t ρ else some false
def tOn (s t : Rho → Option Bool) : Rho → Option Bool := fun ρ => (s ρ).bind fun b => if b then some true else t ρ
def tNo (s : Rho → Option Bool) : Rho → Option Bool := fun ρ => (s ρ).map fun b => !b
variable {s t : Rho → Option Bool} {rest : List Expr}
theorem qw_and1 (h : QT X C a s) : QW X C (.BoolOp .And [a] pos) s := pw_and1 h
theorem qw_or1 (h : QT X C a s) : QW X C (.BoolOp .Or [a] pos) s := pw_or1 h
theorem qw_and (ha : QT X C a s) (hb : QW X C (.BoolOp .And (b :: rest) pos) t) : QW X C (.BoolOp .And (a :: b :: rest) pos) (tAn s t) :=
  wkW (pw_and ha hb) fun σ H Q h => by
    obtain ⟨A, α, ρ, d, s, e, q⟩ := h
    obtain ⟨x, e1, e⟩ := bind_some e
    refine ⟨A, α, ρ, x, s, e1, fun H1 g1 => ?_⟩
    cases x with
    | false => cases e; exact q _ g1
    | true => exact ⟨A, α, ρ, d, s.grow g1, e, fun H' g2 => q H' (g1.trans g2)⟩
theorem qw_or (ha : QT X C a s) (hb : QW X C (.BoolOp .Or (b :: rest) pos) t) : QW X C (.BoolOp .Or (a :: b :: rest) pos) (tOn s t) :=
  wkW (pw_or ha hb) fun σ H Q h => by
    obtain ⟨A, α, ρ, d, s, e, q⟩ := h
    obtain ⟨x, e1, e⟩ := bind_some e
    refine ⟨A, α, ρ, x, s, e1, fun H1 g1 => ?_⟩
    cases x with
    | true => cases e; exact q _ g1
    | false => exact ⟨A, α, ρ, d, s.grow g1, e, fun H' g2 => q H' (g1.trans g2)⟩
theorem qt_w (h : QW X C a s) : QT X C a s := h.pt
theorem qt_not (h : QT X C a s) : QT X C (.UnaryOp .Not a pos) (tNo s) :=
  wkT (pt_not h) fun σ H Q h => by
    obtain ⟨A, α, ρ, d, sr, e, q⟩ := h
    cases hb : s ρ with
    | none => unfold tNo at e; rw [hb] at e; cases e
    | some t =>
      unfold tNo at e
      rw [hb] at e
      cases e
      exact ⟨A, α, ρ, _, sr, hb, fun H' g => q H' g⟩
def qIf (s : Rho → Option Bool) (fa fb : Rho → Option D) : Rho → Option D := fun ρ => (s ρ).bind fun k => if k then fa ρ else fb ρ
theorem qe_if (hc : QT X C c s) (ha : QE X C a fa) (hb : QE X C b fb) : QE X C (.IfExp c a b pos) (qIf s fa fb) :=
  wkE (pe_ifExp hc ha hb) fun σ H Q h => by
    obtain ⟨A, α, ρ, d, sr, e, q⟩ := h
    obtain ⟨x, e1, e⟩ := bind_some e
    refine ⟨A, α, ρ, x, sr, e1, fun H1 g1 => ?_⟩
    cases x with
    | true => exact ⟨A, α, ρ, d, sr.grow g1, e, fun v H' g2 r => q v H' (g1.trans g2) r⟩
    | false => exact ⟨A, α, ρ, d, sr.grow g1, e, fun v H' g2 r => q v H' (g1.trans g2) r⟩
/-! ### argument lists, displays -/
def aN : Rho → Option (List D) := fun _ => some []
def aC (f : Rho → Option D) (fs : Rho → Option (List D)) : Rho → Option (List D) := fun ρ => (f ρ).bind fun d => (fs ρ).bind fun ds => some (d :: ds)
variable {fs : Rho → Option (List D)}
theorem qa_nil : QA X C [] aN := ⟨wkA pa_nil fun σ H Q ⟨A, α, ρ, d, s, e, q⟩ => by cases e; exact q _ H Gro.refl .nil, fun ρ ds h => by cases h; rfl⟩
theorem qa_cons (ha : QE X C e f) (hr : QA X C es fs) (hs : starEach (e :: es) X.env = (false, eval e X.env) :: starEach es X.env := by rfl) : QA X C (e :: es) (aC f fs) := by
  refine ⟨wkA (pa_cons ha hr.pa hs) fun σ H Q ⟨A, α, ρ, d, s, e, q⟩ => ?_, fun ρ ds h => ?_⟩
  · obtain ⟨x, e1, e⟩ := bind_some e
    obtain ⟨xs, e2, e⟩ := bind_some e
    cases e
    exact ⟨A, α, ρ, x, s, e1, fun v H1 g1 r1 => ⟨A, α, ρ, xs, s.grow g1, e2, fun vs H2 g2 r2 => q _ H2 (g1.trans g2) (.cons (r1.mv g2.mv) r2)⟩⟩
  · obtain ⟨x, e1, e⟩ := bind_some h
    obtain ⟨xs, e2, e⟩ := bind_some e
    cases e
    rw [List.length_cons, List.length_cons, hr.len ρ xs e2]
theorem ba_nil : BA X C [] aN := wkA pa_nil fun σ H Q ⟨A, α, ρ, d, s, e, q⟩ => by cases e; exact q _ H Gro.refl .nil
theorem ba_cons (ha : BE X C e f) (hr : BA X C es fs) (hs : starEach (e :: es) X.env = (false, eval e X.env) :: starEach es X.env := by rfl) : BA X C (e :: es) (aC f fs) :=
  wkA (pa_cons ha hr hs) fun σ H Q ⟨A, α, ρ, d, s, e, q⟩ => by
    obtain ⟨x, e1, e⟩ := bind_some e
    obtain ⟨xs, e2, e⟩ := bind_some e
    cases e
    exact ⟨A, α, ρ, x, s, e1, fun v H1 g1 r1 => ⟨A, α, ρ, xs, s.grow g1, e2, fun vs H2 g2 r2 => q _ H2 (g1.trans g2) (.cons (r1.grow g2) r2)⟩⟩
def tupO (o : Option (List D)) : Option D := o.map D.tup
theorem line1000 {n : Nat} (h : n ≤ 1000) : n ≤ sizeLine := Nat.le_of_lt (small1000 h)
theorem tupO_some {o : Option (List D)} {d : D} (h : tupO o = some d) : ∃ ds, o = some ds ∧ d = .tup ds := by
  cases o with
  | none => cases h
  | some ds => cases h; exact ⟨ds, rfl, rfl⟩
theorem qe_tup {x1} (h : QA X C es fs) (hl : es.length ≤ 1000 := by decide) : QE X C (.Tuple es x1 pos) (fun ρ => tupO (fs ρ)) :=
  wkE (pe_tup h.pa) fun σ H Q ⟨A, α, ρ, d, s, e, q⟩ => by
    obtain ⟨ds, hf, rfl⟩ := tupO_some e
    refine ⟨A, α, ρ, ds, s, hf, fun vs H1 g1 r => ⟨?_, fun p hp => q _ _ (g1.trans (Gro.new hp)) (repNewT hp r)⟩⟩
    rw [← r.length, h.len ρ ds hf]
    exact line1000 hl
theorem fe_lst (h : QA X C es fs) (hl : es.length ≤ 1000 := by decide) : FE X C (.List es pos) fs :=
  wkE (pe_lst h.pa) fun σ H Q ⟨A, α, ρ, ds, s, e, q⟩ => by
    refine ⟨A, α, ρ, ds, s, e, fun vs H1 g1 r => ⟨?_, fun p hp => ?_⟩⟩
    · rw [← r.length, h.len ρ ds e]
      exact line1000 hl
    · exact q p vs _ (g1.trans (Gro.new hp)) (g1.nn _ hp) upd_same (r.mv (mvNew hp))
end
end VL
end
section
set_option Elab.async false
set_option linter.all false
set_option maxRecDepth 100000
set_option maxHeartbeats 2000000
/-! VL3: operators, comparisons, built-ins, subscripts, slices. -/
namespace VL
open PySem PySem.Spec L2
open PyProof.Rows hiding St
/-! ### data to compare -/
mutual
def D.P : D → PyData
  | .non => .none
  | .bl b => .bool b
  | .int i => .int i
  | .str x => .str x
  | .tup xs => .tuple (D.PL xs)
  | .tupx xs => .tuple (D.PL xs)
  | .lst xs => .list (D.PL xs)
  | .dic _ _ => .dict []
  | .obj _ _ => .dict []
  | .fn _ => .dict []
  | .exc _ _ => .dict []
def D.PL : List D → List PyData
  | [] => []
  | x :: xs => x.P :: D.PL xs
end
section
variable {K : PySem.W.Frag} {C : Ctx} {F : Addr → Prop} {H : Hp}
mutual
theorem Rep.dp : ∀ {d : D} {v : V}, Rep K C F H d v → d.P.canLay0 = true → Dp K H v d.P
  | _, _, .non, _ => .non
  | _, _, .bl b, _ => .bl b
  | _, _, .int i, _ => .int i
  | _, _, .str x, _ => .str x
  | _, _, .tup h r, c => .tup h (RepL.dp r (by simpa only [D.P, PyData.canLay0] using c))
  | _, _, .tupx h _ r, c => .tup (.inl (.inr ⟨_, h⟩)) (RepL.dp r (by simpa only [D.P, PyData.canLay0] using c))
  | _, _, .lst h r, c => .lst h.sq (RepL.dp r (by simpa only [D.P, PyData.canLay0] using c))
  | _, _, .dic _ _ _ _ _, c => by simp [D.P, PyData.canLay0] at c
  | _, _, .obj _ _ _ _ _, c => by simp [D.P, PyData.canLay0] at c
  | _, _, .raw _ _ _, c => by simp [D.P, PyData.canLay0] at c
  | _, _, .fn _, c => by simp [D.P, PyData.canLay0] at c
  | _, _, .exc _ _ _ _ _, c => by simp [D.P, PyData.canLay0] at c
theorem RepL.dp : ∀ {ds : List D} {vs : List V}, RepL K C F H ds vs → PyData.canLayAll0 (D.PL ds) = true → DpAll K H vs (D.PL ds)
  | _, _, .nil, _ => .nil
  | _, _, .cons r t, c => by
    rw [D.PL, PyData.canLayAll0, Bool.and_eq_true] at c
    exact .cons (Rep.dp r c.1) (RepL.dp t c.2)
end
theorem RepB.dp {d : D} {v : V} (h : RepB K C F H d v) (c : d.P.canLay0 = true) : Dp K H v d.P := by
  rcases h with h | ⟨a, vs, ds, e1, e2, e3, r⟩
  · exact h.dp c
  · subst e1 e2
    exact .lst (SqL.of e3) (r.dp (by simpa only [D.P, PyData.canLay0] using c))
end
/-- both can be compared -/
def cmpOk (d e : D) : Bool := d.P.canLay0 && e.P.canLay0 && decide (min d.P.depth e.P.depth ≤ 64)
theorem cmpOk_ok {d e : D} (h : cmpOk d e = true) : d.P.canLay0 = true ∧ e.P.canLay0 = true ∧ min d.P.depth e.P.depth ≤ 64 := by
  unfold cmpOk at h
  simp only [Bool.and_eq_true, decide_eq_true_eq] at h
  exact ⟨h.1.1, h.1.2, h.2⟩
def D.eq (d e : D) : Bool := PyData.eqv d.P e.P
def eqD : O2 := fun d e => if cmpOk d e then some (.bl (d.eq e)) else none
def neD : O2 := fun d e => if cmpOk d e then some (.bl (!d.eq e)) else none
theorem if_some {α : Type} {c : Bool} {a b : α} (h : (if c then some a else none) = some b) : c = true ∧ a = b := by
  cases c with
  | true => exact ⟨rfl, Option.some.inj h⟩
  | false => cases h
def addD : O2
  | .int i, .int j => some (.int (i + j))
  | .tup xs, .tup ys => if decide (xs.length + ys.length ≤ 16777216) then some (.tup (xs ++ ys)) else none
  | .str x, .str y => if decide (x.length + y.length ≤ 16777216) then some (.str (x ++ y)) else none
  | _, _ => none
def subD : O2
  | .int i, .int j => some (.int (i - j))
  | _, _ => none
def mulD : O2
  | .int i, .int j => if decide (i.natAbs < 18446744073709551616) || decide (j.natAbs < 18446744073709551616) || (decide (i.natAbs < 2 ^ 2000) && decide (j.natAbs < 2 ^ 2000)) then some (.int (i * j)) else none
  | .tup xs, .int k => if !xs.isEmpty && decide (2 ≤ k) && decide (k ≤ 1000) && decide (xs.length ≤ 1000) then some (.tup (List.replicate k.toNat xs).flatten) else none
  | _, _ => none
def fdivD : O2
  | .int i, .int j => if decide (0 < j) && decide (j.natAbs < 1073741824) then some (.int (i / j)) else none
  | _, _ => none
def modD : O2
  | .int i, .int j => if decide (0 < j) then some (.int (i % j)) else none
  | _, _ => none
def powD : O2
  | .int i, .int j => if decide (0 ≤ j) && decide (j.natAbs ≤ 1000000) && decide (i.natAbs < 18446744073709551616) then some (.int (i ^ j.toNat)) else none
  | _, _ => none
def cmpI (p : Int → Int → Bool) : O2
  | .int i, .int j => some (.bl (p i j))
  | _, _ => none
def ltD : O2 := cmpI fun i j => decide (i < j)
def leD : O2 := cmpI fun i j => decide (i ≤ j)
def gtD : O2 := cmpI fun i j => decide (j < i)
def geD : O2 := cmpI fun i j => decide (j ≤ i)
def isN : D → Bool
  | .non => true
  | _ => false
def isD : O2
  | d, .non => some (.bl (isN d))
  | .bl a, .bl b => some (.bl (decide (a = b)))
  | _, _ => none
def isnotD : O2
  | d, .non => some (.bl (!isN d))
  | .bl a, .bl b => some (.bl (!decide (a = b)))
  | _, _ => none
def inD : O2
  | d, .lst es => if cmpOk d (.lst es) then some (.bl (es.any fun z => z.eq d)) else none
  | d, .tup es => if cmpOk d (.tup es) then some (.bl (es.any fun z => z.eq d)) else none
  | _, _ => none
def notinD : O2
  | d, .lst es => if cmpOk d (.lst es) then some (.bl (!es.any fun z => z.eq d)) else none
  | d, .tup es => if cmpOk d (.tup es) then some (.bl (!es.any fun z => z.eq d)) else none
  | _, _ => none
theorem any_PL (d : D) : ∀ es : List D, (D.PL es).any (fun z => PyData.eqv z d.P) = es.any fun z => z.eq d
  | [] => rfl
  | e :: es => by
    rw [D.PL, List.any_cons, List.any_cons, any_PL d es]
    rfl
section
variable {X : Cx} {C : Ctx} {k : Nat}
theorem op_eqQ (hr : Room k X.A) : OpQ X C (compareOp .Eq) eqD := by
  intro pins s σ H x y v u Q I rx ry h
  obtain ⟨F, d, e, r, dm, r1, r2, e1, q⟩ := h
  obtain ⟨c, rfl⟩ := if_some e1
  obtain ⟨c1, c2, c3⟩ := cmpOk_ok c
  obtain ⟨as, h1⟩ := Dp.reads I d.P x v (r1.dp c1) rx
  obtain ⟨bs, h2⟩ := Dp.reads I e.P y u (r2.dp c2) ry
  exact SeqAt.compareEq_reads h1 h2 c1 c2 (by have := hr.un; omega) ⟨.bl _, H, I, rfl, q _ H Gro.refl (.bl _)⟩
theorem op_neQ (hr : Room k X.A) : OpQ X C (compareOp .NotEq) neD := by
  intro pins s σ H x y v u Q I rx ry h
  obtain ⟨F, d, e, r, dm, r1, r2, e1, q⟩ := h
  obtain ⟨c, rfl⟩ := if_some e1
  obtain ⟨c1, c2, c3⟩ := cmpOk_ok c
  obtain ⟨as, h1⟩ := Dp.reads I d.P x v (r1.dp c1) rx
  obtain ⟨bs, h2⟩ := Dp.reads I e.P y u (r2.dp c2) ry
  exact SeqAt.compareNe_reads h1 h2 c1 c2 (by have := hr.un; omega) ⟨.bl _, H, I, rfl, q _ H Gro.refl (.bl _)⟩
theorem in_room {A : Around} {k : Nat} (hr : Room k A) {d e : D} {n : Nat} (h : min d.P.depth e.P.depth ≤ 64) (he : e.P.depth = n + 1) : A.units + 1 + min n d.P.depth < cLine := by
  have h1 := hr.un
  have h2 : min n d.P.depth ≤ min d.P.depth e.P.depth := by rw [he]; omega
  omega
theorem op_inQ (hr : Room k X.A) : OpQ X C (compareOp .In) inD := by
  intro pins s σ H x y v u Q I rx ry h
  obtain ⟨F, d, e, r, dm, r1, r2, e1, q⟩ := h
  cases e with
  | lst es =>
    obtain ⟨c, rfl⟩ := if_some e1
    obtain ⟨c1, c2, c3⟩ := cmpOk_ok c
    obtain ⟨as, h1⟩ := Dp.reads I d.P x v (r1.dp c1) rx
    obtain ⟨bs, h2⟩ := Dp.reads I (.list (D.PL es)) y u (r2.dp c2) ry
    refine SeqAt.in_list_reads h2 h1 (by simpa only [D.P, PyData.canLay0] using c2) c1 (in_room hr c3 (by simp only [D.P, PyData.depth])) ⟨.bl _, H, I, rfl, ?_⟩
    rw [any_PL]
    exact q _ H Gro.refl (.bl _)
  | tup es =>
    obtain ⟨c, rfl⟩ := if_some e1
    obtain ⟨c1, c2, c3⟩ := cmpOk_ok c
    obtain ⟨as, h1⟩ := Dp.reads I d.P x v (r1.dp c1) rx
    obtain ⟨bs, h2⟩ := Dp.reads I (.tuple (D.PL es)) y u (r2.dp c2) ry
    refine SeqAt.in_tuple_reads h2 h1 (by simpa only [D.P, PyData.canLay0] using c2) c1 (in_room hr c3 (by simp only [D.P, PyData.depth])) ⟨.bl _, H, I, rfl, ?_⟩
    rw [any_PL]
    exact q _ H Gro.refl (.bl _)
  | _ => cases e1
theorem op_notinQ (hr : Room k X.A) : OpQ X C (compareOp .NotIn) notinD := by
  intro pins s σ H x y v u Q I rx ry h
  obtain ⟨F, d, e, r, dm, r1, r2, e1, q⟩ := h
  cases e with
  | lst es =>
    obtain ⟨c, rfl⟩ := if_some e1
    obtain ⟨c1, c2, c3⟩ := cmpOk_ok c
    obtain ⟨as, h1⟩ := Dp.reads I d.P x v (r1.dp c1) rx
    obtain ⟨bs, h2⟩ := Dp.reads I (.list (D.PL es)) y u (r2.dp c2) ry
    refine SeqAt.notIn_list_reads h2 h1 (by simpa only [D.P, PyData.canLay0] using c2) c1 (in_room hr c3 (by simp only [D.P, PyData.depth])) ⟨.bl _, H, I, rfl, ?_⟩
    rw [any_PL]
    exact q _ H Gro.refl (.bl _)
  | tup es =>
    obtain ⟨c, rfl⟩ := if_some e1
    obtain ⟨c1, c2, c3⟩ := cmpOk_ok c
    obtain ⟨as, h1⟩ := Dp.reads I d.P x v (r1.dp c1) rx
    obtain ⟨bs, h2⟩ := Dp.reads I (.tuple (D.PL es)) y u (r2.dp c2) ry
    refine SeqAt.notIn_tuple_reads h2 h1 (by simpa only [D.P, PyData.canLay0] using c2) c1 (in_room hr c3 (by simp only [D.P, PyData.depth])) ⟨.bl _, H, I, rfl, ?_⟩
    rw [any_PL]
    exact q _ H Gro.refl (.bl _)
  | _ => cases e1
theorem op_intQ {f : Value → Value → Sem Value} {g : Int → Int → Int} {cond : Int → Int → Prop} {sem : O2} (h : OpR X f (rI cond fun i j => .int (g i j)))
    (hs : ∀ d e r, sem d e = some r → ∃ i j, d = .int i ∧ e = .int j ∧ cond i j ∧ r = .int (g i j)) : OpQ X C f sem := by
  refine OpR.wk h fun x y H Q ⟨F, d, e, r, dm, r1, r2, e1, q⟩ => ?_
  obtain ⟨i, j, rfl, rfl, c, rfl⟩ := hs d e r e1
  exact ⟨i, j, r1.intI, r2.intI, c, q _ H Gro.refl (.int _)⟩
theorem op_cmpQ {f : Value → Value → Sem Value} {p : Int → Int → Bool} (h : OpR X f (rI0 fun i j => .bl (p i j))) : OpQ X C f (cmpI p) := by
  refine OpR.wk h fun x y H Q ⟨F, d, e, r, dm, r1, r2, e1, q⟩ => ?_
  cases d <;> cases e <;> first | cases e1 | skip
  exact ⟨_, _, r1.intI, r2.intI, q _ H Gro.refl (.bl _)⟩
theorem op_ltQ : OpQ X C (compareOp .Lt) ltD := op_cmpQ op_lt
theorem op_leQ : OpQ X C (compareOp .LtE) leD := op_cmpQ op_le
theorem op_gtQ : OpQ X C (compareOp .Gt) gtD := op_cmpQ op_gt
theorem op_geQ : OpQ X C (compareOp .GtE) geD := op_cmpQ op_ge
theorem op_subQ : OpQ X C (binaryOp .Sub) subD := by
  refine OpR.wk op_sub fun x y H Q ⟨F, d, e, r, dm, r1, r2, e1, q⟩ => ?_
  cases d <;> cases e <;> first | cases e1 | skip
  exact ⟨_, _, r1.intI, r2.intI, q _ H Gro.refl (.int _)⟩
theorem op_modQ : OpQ X C (binaryOp .Mod) modD := by
  refine OpR.wk op_mod fun x y H Q ⟨F, d, e, r, dm, r1, r2, e1, q⟩ => ?_
  cases d <;> cases e <;> first | cases e1 | skip
  obtain ⟨c, rfl⟩ := if_some e1
  exact ⟨_, _, r1.intI, r2.intI, of_decide_eq_true c, q _ H Gro.refl (.int _)⟩
theorem op_fdivQ : OpQ X C (binaryOp .FloorDiv) fdivD := by
  refine OpR.wk op_fdiv fun x y H Q ⟨F, d, e, r, dm, r1, r2, e1, q⟩ => ?_
  cases d <;> cases e <;> first | cases e1 | skip
  obtain ⟨c, rfl⟩ := if_some e1
  simp only [Bool.and_eq_true, decide_eq_true_eq] at c
  exact ⟨_, _, r1.intI, r2.intI, ⟨c.1, by have := c.1; have := c.2; omega⟩, q _ H Gro.refl (.int _)⟩
theorem op_powQ : OpQ X C (binaryOp .Pow) powD := by
  refine OpR.wk op_pow fun x y H Q ⟨F, d, e, r, dm, r1, r2, e1, q⟩ => ?_
  cases d <;> cases e <;> first | cases e1 | skip
  obtain ⟨c, rfl⟩ := if_some e1
  simp only [Bool.and_eq_true, decide_eq_true_eq] at c
  exact ⟨_, _, r1.intI, r2.intI, ⟨c.1.1, by have := c.1.1; have := c.1.2; omega, c.2⟩, q _ H Gro.refl (.int _)⟩
theorem op_isQ : OpQ X C (compareOp .Is) isD := by
  refine OpR.wk (op_isN.or op_is_bl) fun x y H Q ⟨F, d, e, r, dm, r1, r2, e1, q⟩ => ?_
  cases e with
  | non =>
    have e1 : some (D.bl (isN d)) = some r := by cases d <;> exact e1
    cases e1
    refine .inl ⟨r2.nonI, ?_⟩
    have e3 : decide (x = .non) = isN d := by
      cases d with
      | non => rw [r1.nonI]; rfl
      | _ =>
        refine decide_eq_false fun z => ?_
        subst z
        rcases r1 with r1 | ⟨_, _, _, _, z, _⟩
        · cases r1
        · cases z
    rw [e3]
    exact q _ H Gro.refl (.bl _)
  | bl b =>
    cases d <;> first | cases e1 | skip
    exact .inr ⟨_, _, r1.blI, r2.blI, q _ H Gro.refl (.bl _)⟩
  | _ => cases d <;> cases e1
theorem op_isnotQ : OpQ X C (compareOp .IsNot) isnotD := by
  refine OpR.wk (op_notN.or op_isnot_bl) fun x y H Q ⟨F, d, e, r, dm, r1, r2, e1, q⟩ => ?_
  cases e with
  | non =>
    have e1 : some (D.bl (!isN d)) = some r := by cases d <;> exact e1
    cases e1
    refine .inl ⟨r2.nonI, ?_⟩
    have e3 : decide (x = .non) = isN d := by
      cases d with
      | non => rw [r1.nonI]; rfl
      | _ =>
        refine decide_eq_false fun z => ?_
        subst z
        rcases r1 with r1 | ⟨_, _, _, _, z, _⟩
        · cases r1
        · cases z
    rw [e3]
    exact q _ H Gro.refl (.bl _)
  | bl b =>
    cases d <;> first | cases e1 | skip
    exact .inr ⟨_, _, r1.blI, r2.blI, q _ H Gro.refl (.bl _)⟩
  | _ => cases d <;> cases e1
theorem sl16 : (16777216 : Nat) = sizeLine := sizeLine_eq.symm
theorem op_addQ : OpQ X C (binaryOp .Add) addD := by
  refine OpR.wk (op_add.or (op_catA.or op_add_str)) fun x y H Q ⟨F, d, e, r, dm, r1, r2, e1, q⟩ => ?_
  cases d with
  | int i =>
    cases e <;> first | cases e1 | skip
    exact .inl ⟨_, _, r1.intI, r2.intI, q _ H Gro.refl (.int _)⟩
  | str i =>
    cases e <;> first | cases e1 | skip
    obtain ⟨c, rfl⟩ := if_some e1
    exact .inr (.inr ⟨_, _, r1.strI, r2.strI, by rw [← sl16]; exact of_decide_eq_true c, q _ H Gro.refl (.str _)⟩)
  | tup xs =>
    cases e <;> first | cases e1 | skip
    rename_i ys
    obtain ⟨c, rfl⟩ := if_some e1
    obtain ⟨a, vs, rfl, h1, p1⟩ := r1.tupI
    obtain ⟨b, ws, rfl, h2, p2⟩ := r2.tupI
    have l1 := p1.length
    have l2 := p2.length
    refine .inr (.inl ⟨a, b, vs, ws, rfl, rfl, h1, h2, by rw [← sl16, ← l1, ← l2]; exact of_decide_eq_true c, fun z => ?_, fun _ z => ?_, fun _ _ p hp => ?_⟩)
    · subst z
      cases p1
      exact q _ H Gro.refl (.tup h2 p2)
    · subst z
      cases p2
      rw [List.append_nil] at q
      exact q _ H Gro.refl (.tup h1 p1)
    · exact q _ _ (Gro.new hp) (repNewT hp (p1.append p2))
  | _ => cases e <;> cases e1
theorem op_mulQ : OpQ X C (binaryOp .Mult) mulD := by
  refine OpR.wk (op_mul.or (op_repT.or op_mulW)) fun x y H Q ⟨F, d, e, r, dm, r1, r2, e1, q⟩ => ?_
  cases d with
  | int i =>
    cases e <;> first | cases e1 | skip
    obtain ⟨c, rfl⟩ := if_some e1
    simp only [Bool.or_eq_true, Bool.and_eq_true, decide_eq_true_eq] at c
    rcases c with c | c
    · exact .inl ⟨_, _, r1.intI, r2.intI, c.imp (fun z => by omega) (fun z => by omega), q _ H Gro.refl (.int _)⟩
    · exact .inr (.inr ⟨_, _, r1.intI, r2.intI, wide_mul c.1 c.2 (by decide) (by decide) (by decide), q _ H Gro.refl (.int _)⟩)
  | tup xs =>
    cases e <;> first | cases e1 | skip
    obtain ⟨c, rfl⟩ := if_some e1
    simp only [Bool.and_eq_true, decide_eq_true_eq, Bool.not_eq_true', List.isEmpty_eq_false_iff] at c
    obtain ⟨a, vs, rfl, h1, p1⟩ := r1.tupI
    refine .inr (.inl ⟨a, _, vs, rfl, r2.intI, h1, fun z => ?_, c.1.1.2, c.1.2, by rw [← p1.length]; exact c.2, fun p hp => q _ _ (Gro.new hp) (repNewT hp (p1.rep _))⟩)
    subst z
    cases p1
    exact c.1.1.1 rfl
  | _ => cases e <;> cases e1
/-! ### one-place operators -/
def qU (g : D → Option D) (fa : Rho → Option D) : Rho → Option D := fun ρ => (fa ρ).bind g
def negD : D → Option D
  | .int i => some (.int (-i))
  | _ => none
variable {e a b : Expr} {es : List Expr} {pos : Pos} {fa fb f : Rho → Option D} {fs : Rho → Option (List D)}
theorem qe_neg (ha : QE X C a fa) : QE X C (.UnaryOp .USub a pos) (qU negD fa) :=
  wkE (pe_un un_neg ha) fun σ H Q ⟨A, α, ρ, d, s, e, q⟩ => by
    obtain ⟨x, e1, e⟩ := bind_some e
    cases x <;> first | cases e | skip
    refine ⟨A, α, ρ, _, s, e1, fun v H1 g1 r1 => ?_⟩
    cases r1
    exact ⟨_, rfl, q _ _ g1 (.int _)⟩
/-! ### built-ins by their names -/
def BQ (X : Cx) (C : Ctx) (f : Value) (sem : List D → Option D) : Prop :=
  CallR X f (fun vs H Q => ∃ F ds d, DmF F H ∧ RepBL X.K C F H ds vs ∧ sem ds = some d ∧ ∀ v H', Gro C H H' → Rep X.K C F H' d v → Q v H')
/-- that make a new list -/
def BF (X : Cx) (C : Ctx) (f : Value) (sem : List D → Option (List D)) : Prop :=
  CallR X f (fun vs H Q => ∃ F ds xs, DmF F H ∧ RepBL X.K C F H ds vs ∧ sem ds = some xs ∧ ∀ a ws H', Gro C H H' → H a = none → H' a = some (.lst ws) → RepL X.K C (Ad F a) H' xs ws → Q (.ref a) H')
theorem CallR.wk {f : Value} {r r' : List V → Hp → VK → Prop} (h : CallR X f r) (i : ∀ x H Q, r' x H Q → r x H Q) : CallR X f r' := fun pins s σ H x us Q I r1 q => h pins s σ H x us Q I r1 (i x H Q q)
def qCB (sem : List D → Option D) (fs : Rho → Option (List D)) : Rho → Option D := fun ρ => (fs ρ).bind sem
def qCF (sem : List D → Option (List D)) (fs : Rho → Option (List D)) : Rho → Option (List D) := fun ρ => (fs ρ).bind sem
theorem cb_rd {sem : List D → Option D} {σ : L2.St} {H : Hp} {Q : VK} (h : rdQ X.K C (qCB sem fs) σ H Q) :
    tCB (fun vs H Q => ∃ F ds d, DmF F H ∧ RepBL X.K C F H ds vs ∧ sem ds = some d ∧ ∀ v H', Gro C H H' → Rep X.K C F H' d v → Q v H') (rdAB X.K C fs) σ H Q := by
  obtain ⟨A, α, ρ, d, s, e, q⟩ := h
  obtain ⟨ds, e1, e⟩ := bind_some e
  exact ⟨A, α, ρ, ds, s, e1, fun vs H1 g1 r1 => ⟨Fb A α, ds, d, (s.grow g1).dm, r1, e, fun v H' g2 r2 => q v H' (g1.trans g2) r2⟩⟩
theorem cf_rd {sem : List D → Option (List D)} {σ : L2.St} {H : Hp} {Q : VK} (h : rdF X.K C (qCF sem fs) σ H Q) :
    tCB (fun vs H Q => ∃ F ds xs, DmF F H ∧ RepBL X.K C F H ds vs ∧ sem ds = some xs ∧ ∀ a ws H', Gro C H H' → H a = none → H' a = some (.lst ws) → RepL X.K C (Ad F a) H' xs ws → Q (.ref a) H') (rdAB X.K C fs) σ H Q := by
  obtain ⟨A, α, ρ, d, s, e, q⟩ := h
  obtain ⟨ds, e1, e⟩ := bind_some e
  exact ⟨A, α, ρ, ds, s, e1, fun vs H1 g1 r1 => ⟨Fb A α, ds, d, (s.grow g1).dm, r1, e, fun v ws H' g2 n l r2 => q v ws H' (g1.trans g2) (g1.nn _ n) l r2⟩⟩
theorem qe_callB {x : Str} {id : String} {sem : List D → Option D} {p : Pos} (hc : BQ X C (.builtin id) sem) (hg : Gl X x) (hm : X.mg x = none) (hv : bootBuiltins x = some (.builtin id)) (ha : BA X C (e :: es) fs) (hn : x ≠ "__name__" := by decide) (hdb : (x == ("__debug__" : Str)) = false := by decide)
    (he : starEach (e :: es) X.env = (false, eval e X.env) :: starEach es X.env := by rfl) (hpl : (backTo pos (starEach es X.env)).any (·.1) = false := by rfl) : QE X C (.Call (.Name x p) (e :: es) [] pos) (qCB sem fs) :=
  wkE (pe_callB hc hg hm hv ha hn hdb he hpl) fun σ H Q h => cb_rd h
theorem qe_callTy {x : Str} {T : String} {sem : List D → Option D} {p : Pos} (hc : BQ X C (.type T) sem) (hg : Gl X x) (hm : X.mg x = none) (hv : bootBuiltins x = some (.type T)) (ha : BA X C (e :: es) fs) (hn : x ≠ "__name__" := by decide) (hdb : (x == ("__debug__" : Str)) = false := by decide)
    (he : starEach (e :: es) X.env = (false, eval e X.env) :: starEach es X.env := by rfl) (hpl : (backTo pos (starEach es X.env)).any (·.1) = false := by rfl) : QE X C (.Call (.Name x p) (e :: es) [] pos) (qCB sem fs) :=
  wkE (pe_callTy hc hg hm hv ha hn hdb he hpl) fun σ H Q h => cb_rd h
theorem fe_callB {x : Str} {id : String} {sem : List D → Option (List D)} {p : Pos} (hc : BF X C (.builtin id) sem) (hg : Gl X x) (hm : X.mg x = none) (hv : bootBuiltins x = some (.builtin id)) (ha : BA X C (e :: es) fs) (hn : x ≠ "__name__" := by decide) (hdb : (x == ("__debug__" : Str)) = false := by decide)
    (he : starEach (e :: es) X.env = (false, eval e X.env) :: starEach es X.env := by rfl) (hpl : (backTo pos (starEach es X.env)).any (·.1) = false := by rfl) : FE X C (.Call (.Name x p) (e :: es) [] pos) (qCF sem fs) :=
  wkE (pe_callB hc hg hm hv ha hn hdb he hpl) fun σ H Q h => cf_rd h
theorem fe_callTy {x : Str} {T : String} {sem : List D → Option (List D)} {p : Pos} (hc : BF X C (.type T) sem) (hg : Gl X x) (hm : X.mg x = none) (hv : bootBuiltins x = some (.type T)) (ha : BA X C (e :: es) fs) (hn : x ≠ "__name__" := by decide) (hdb : (x == ("__debug__" : Str)) = false := by decide)
    (he : starEach (e :: es) X.env = (false, eval e X.env) :: starEach es X.env := by rfl) (hpl : (backTo pos (starEach es X.env)).any (·.1) = false := by rfl) : FE X C (.Call (.Name x p) (e :: es) [] pos) (qCF sem fs) :=
  wkE (pe_callTy hc hg hm hv ha hn hdb he hpl) fun σ H Q h => cf_rd h
/-- one argument -/
theorem RepBL.one {K : PySem.W.Frag} {F : Addr → Prop} {H : Hp} {d : D} {vs : List V} (h : RepBL K C F H [d] vs) : ∃ v, vs = [v] ∧ RepB K C F H d v := by
  cases h with | cons r t => cases t; exact ⟨_, rfl, r⟩
theorem RepBL.two {K : PySem.W.Frag} {F : Addr → Prop} {H : Hp} {d e : D} {vs : List V} (h : RepBL K C F H [d, e] vs) : ∃ v w, vs = [v, w] ∧ RepB K C F H d v ∧ RepB K C F H e w := by
  cases h with | cons r t => cases t with | cons r2 t2 => cases t2; exact ⟨_, _, rfl, r, r2⟩
def lenD : List D → Option D
  | [.lst xs] => some (.int xs.length)
  | [.tup xs] => some (.int xs.length)
  | [.str z] => if decide (z.length ≤ 16777216) then some (.int z.length) else none
  | [.tupx xs] => some (.int xs.length)
  | _ => none
theorem bq_len : BQ X C (.builtin "len") lenD := by
  refine CallR.wk (CallR.or call_len_seq call_len_str) fun vs H Q ⟨F, ds, d, dm, r, e, q⟩ => ?_
  unfold lenD at e
  split at e
  · cases e
    obtain ⟨v, rfl, r1⟩ := r.one
    obtain ⟨a, ws, rfl, l, p⟩ := r1.lstI
    rw [p.length] at q
    exact .inl ⟨a, ws, rfl, .inl l, q _ H Gro.refl (.int _)⟩
  · cases e
    obtain ⟨v, rfl, r1⟩ := r.one
    obtain ⟨a, ws, rfl, l, p⟩ := r1.tupI
    rw [p.length] at q
    exact .inl ⟨a, ws, rfl, .inr l, q _ H Gro.refl (.int _)⟩
  · obtain ⟨c, rfl⟩ := if_some e
    obtain ⟨v, rfl, r1⟩ := r.one
    rw [r1.strI]
    exact .inr ⟨_, rfl, by rw [← sl16]; exact of_decide_eq_true c, q _ H Gro.refl (.int _)⟩
  · cases e
    obtain ⟨v, rfl, r1⟩ := r.one
    obtain ⟨a, ws, rfl, l, p, _⟩ := (r1.notL fun _ z => nomatch z).tupxI
    rw [p.length] at q
    exact .inl ⟨a, ws, rfl, .inr l, q _ H Gro.refl (.int _)⟩
  · cases e
def blsO : List D → Option (List Bool)
  | [] => some []
  | .bl b :: xs => (blsO xs).map (b :: ·)
  | _ :: _ => none
theorem blsO_some : ∀ {xs : List D} {bs : List Bool}, blsO xs = some bs → xs = bs.map D.bl
  | [], _, h => by cases h; rfl
  | .bl b :: xs, bs, h => by
    unfold blsO at h
    cases q : blsO xs with
    | none => rw [q] at h; cases h
    | some cs =>
      rw [q] at h
      cases h
      rw [blsO_some q]
      rfl
  | .non :: _, _, h => by cases h
  | .int _ :: _, _, h => by cases h
  | .str _ :: _, _, h => by cases h
  | .tup _ :: _, _, h => by cases h
  | .tupx _ :: _, _, h => by cases h
  | .lst _ :: _, _, h => by cases h
  | .dic _ _ :: _, _, h => by cases h
  | .obj _ _ :: _, _, h => by cases h
  | .fn _ :: _, _, h => by cases h
def intsO : List D → Option (List Int)
  | [] => some []
  | .int b :: xs => (intsO xs).map (b :: ·)
  | _ :: _ => none
theorem intsO_some : ∀ {xs : List D} {bs : List Int}, intsO xs = some bs → xs = bs.map D.int
  | [], _, h => by cases h; rfl
  | .int b :: xs, bs, h => by
    unfold intsO at h
    cases q : intsO xs with
    | none => rw [q] at h; cases h
    | some cs =>
      rw [q] at h
      cases h
      rw [intsO_some q]
      rfl
  | .non :: _, _, h => by cases h
  | .bl _ :: _, _, h => by cases h
  | .str _ :: _, _, h => by cases h
  | .tup _ :: _, _, h => by cases h
  | .tupx _ :: _, _, h => by cases h
  | .lst _ :: _, _, h => by cases h
  | .dic _ _ :: _, _, h => by cases h
  | .obj _ _ :: _, _, h => by cases h
  | .fn _ :: _, _, h => by cases h
theorem intsO_map : ∀ ns : List Int, intsO (ns.map D.int) = some ns
  | [] => rfl
  | n :: ns => by
    show (intsO (ns.map D.int)).map (n :: ·) = some (n :: ns)
    rw [intsO_map ns]
    rfl
theorem blsO_map : ∀ ns : List Bool, blsO (ns.map D.bl) = some ns
  | [] => rfl
  | n :: ns => by
    show (blsO (ns.map D.bl)).map (n :: ·) = some (n :: ns)
    rw [blsO_map ns]
    rfl
def allD : List D → Option D
  | [.lst xs] => (blsO xs).map fun bs => .bl (bs.all id)
  | _ => none
def anyD : List D → Option D
  | [.lst xs] => (blsO xs).map fun bs => .bl (bs.any id)
  | _ => none
theorem map_some {α β : Type} {o : Option α} {k : α → β} {b : β} (h : o.map k = some b) : ∃ a, o = some a ∧ k a = b := by
  cases o with
  | none => cases h
  | some a => exact ⟨a, rfl, Option.some.inj h⟩
theorem bq_all (hc : X.calm = true) : BQ X C (.builtin "all") allD := by
  refine CallR.wk (cr_all hc) fun vs H Q ⟨F, ds, d, dm, r, e, q⟩ => ?_
  unfold allD at e
  split at e
  · obtain ⟨bs, e1, rfl⟩ := map_some e
    obtain ⟨v, rfl, r1⟩ := r.one
    obtain ⟨a, ws, rfl, l, p⟩ := r1.lstI
    rw [blsO_some e1] at p
    rw [p.blsV] at l
    exact ⟨a, bs, rfl, l, q _ H Gro.refl (.bl _)⟩
  · cases e
theorem bq_any (hc : X.calm = true) : BQ X C (.builtin "any") anyD := by
  refine CallR.wk (cr_any hc) fun vs H Q ⟨F, ds, d, dm, r, e, q⟩ => ?_
  unfold anyD at e
  split at e
  · obtain ⟨bs, e1, rfl⟩ := map_some e
    obtain ⟨v, rfl, r1⟩ := r.one
    obtain ⟨a, ws, rfl, l, p⟩ := r1.lstI
    rw [blsO_some e1] at p
    rw [p.blsV] at l
    exact ⟨a, bs, rfl, l, q _ H Gro.refl (.bl _)⟩
  · cases e
def absD : List D → Option D
  | [.int i] => some (.int (if i < 0 then -i else i))
  | _ => none
theorem bq_abs : BQ X C (.builtin "abs") absD := by
  refine CallR.wk call_abs fun vs H Q ⟨F, ds, d, dm, r, e, q⟩ => ?_
  unfold absD at e
  split at e
  · cases e
    obtain ⟨v, rfl, r1⟩ := r.one
    rw [r1.intI]
    exact ⟨_, rfl, q _ H Gro.refl (.int _)⟩
  · cases e
def maxD : List D → Option D
  | [.int i, .int j] => some (.int (if j > i then j else i))
  | _ => none
def minD : List D → Option D
  | [.int i, .int j] => some (.int (if j < i then j else i))
  | _ => none
theorem bq_max (hc : X.calm = true) : BQ X C (.builtin "max") maxD := by
  refine CallR.wk (call_max2 hc) fun vs H Q ⟨F, ds, d, dm, r, e, q⟩ => ?_
  unfold maxD at e
  split at e
  · cases e
    obtain ⟨v, w, rfl, r1, r2⟩ := r.two
    rw [r1.intI, r2.intI]
    exact ⟨_, _, rfl, q _ H Gro.refl (.int _)⟩
  · cases e
theorem bq_min (hc : X.calm = true) : BQ X C (.builtin "min") minD := by
  refine CallR.wk (call_min2 hc) fun vs H Q ⟨F, ds, d, dm, r, e, q⟩ => ?_
  unfold minD at e
  split at e
  · cases e
    obtain ⟨v, w, rfl, r1, r2⟩ := r.two
    rw [r1.intI, r2.intI]
    exact ⟨_, _, rfl, q _ H Gro.refl (.int _)⟩
  · cases e
def intD : List D → Option D
  | [.int i] => some (.int i)
  | [.bl b] => some (.int (if b then 1 else 0))
  | _ => none
theorem bq_int : BQ X C (.type "int") intD := by
  refine CallR.wk call_int1 fun vs H Q ⟨F, ds, d, dm, r, e, q⟩ => ?_
  unfold intD at e
  split at e
  · cases e
    obtain ⟨v, rfl, r1⟩ := r.one
    rw [r1.intI]
    exact .inl ⟨_, rfl, q _ H Gro.refl (.int _)⟩
  · cases e
    obtain ⟨v, rfl, r1⟩ := r.one
    rw [r1.blI]
    exact .inr ⟨_, rfl, q _ H Gro.refl (.int _)⟩
  · cases e
/-- sum(xs) of a tuple of ints -/
theorem cr_sumT (hc : X.calm = true) : CallR X (.builtin "sum") (fun vs H Q => ∃ (a : Addr) (ns : List Int), vs = [V.ref a] ∧ SqT X.K H a (ns.map V.int) ∧ Q (.int ns.sum) H) := by
  intro pins s σ H vs us Q I r h
  obtain ⟨a, ns, rfl, hs, q⟩ := h
  obtain ⟨its, rv, hl, _⟩ := I.tuple hs
  rw [Vals.ref1 r]
  have hi := rv.ints
  obtain ⟨xs, e⟩ := hi.allInts.items
  have hn : numsOf (intItems xs).toList = ns := by rw [← e]; exact hi.numsOf
  rw [nums_intItems] at hn
  rw [e] at hl
  refine PySem.W.ktm_sumG (I.ok.hd hc) hl fun h' tk t' hk => ?_
  rw [preSum_eq, List.take_of_length_le (by simp), hn]
  exact ⟨.int _, H, I.kept hk, ⟨_, rfl⟩, q⟩
def sumD : List D → Option D
  | [.lst xs] => (intsO xs).map fun ns => .int ns.sum
  | [.tup xs] => (intsO xs).map fun ns => .int ns.sum
  | _ => none
theorem bq_sum (hc : X.calm = true) : BQ X C (.builtin "sum") sumD := by
  refine CallR.wk (CallR.or (cr_sum hc) (cr_sumT hc)) fun vs H Q ⟨F, ds, d, dm, r, e, q⟩ => ?_
  unfold sumD at e
  split at e
  · obtain ⟨bs, e1, rfl⟩ := map_some e
    obtain ⟨v, rfl, r1⟩ := r.one
    obtain ⟨a, ws, rfl, l, p⟩ := r1.lstI
    rw [intsO_some e1] at p
    rw [p.intsV] at l
    exact .inl ⟨a, bs, rfl, l, q _ H Gro.refl (.int _)⟩
  · obtain ⟨bs, e1, rfl⟩ := map_some e
    obtain ⟨v, rfl, r1⟩ := r.one
    obtain ⟨a, ws, rfl, l, p⟩ := r1.tupI
    rw [intsO_some e1] at p
    rw [p.intsV] at l
    exact .inr ⟨a, bs, rfl, l, q _ H Gro.refl (.int _)⟩
  · cases e
def tupleD : List D → Option D
  | [.lst xs] => some (.tup xs)
  | [.tup xs] => some (.tup xs)
  | _ => none
theorem bq_tuple : BQ X C (.type "tuple") tupleD := by
  refine CallR.wk call_tuple_of fun vs H Q ⟨F, ds, d, dm, r, e, q⟩ => ?_
  unfold tupleD at e
  split at e
  · cases e
    obtain ⟨v, rfl, r1⟩ := r.one
    obtain ⟨a, ws, rfl, l, p⟩ := r1.lstI
    exact ⟨a, ws, rfl, .inl ⟨l, fun p hp => q _ _ (Gro.new hp) (repNewT hp ‹_›)⟩⟩
  · cases e
    obtain ⟨v, rfl, r1⟩ := r.one
    obtain ⟨a, ws, rfl, l, p⟩ := r1.tupI
    exact ⟨a, ws, rfl, .inr ⟨l, q _ _ Gro.refl (.tup l p)⟩⟩
  · cases e
def listD : List D → Option (List D)
  | [.lst xs] => some xs
  | [.tup xs] => some xs
  | _ => none
theorem bf_list : BF X C (.type "list") listD := by
  refine CallR.wk call_list_of fun vs H Q ⟨F, ds, d, dm, r, e, q⟩ => ?_
  unfold listD at e
  split at e
  · cases e
    obtain ⟨v, rfl, r1⟩ := r.one
    obtain ⟨a, ws, rfl, l, p⟩ := r1.lstI
    exact ⟨a, ws, rfl, .inl l, fun b hb => q _ _ _ (Gro.new hb) hb upd_same (p.mv (mvNew hb))⟩
  · cases e
    obtain ⟨v, rfl, r1⟩ := r.one
    obtain ⟨a, ws, rfl, l, p⟩ := r1.tupI
    exact ⟨a, ws, rfl, .inr l, fun b hb => q _ _ _ (Gro.new hb) hb upd_same (p.mv (mvNew hb))⟩
  · cases e
/-! ### isinstance of a built-in class -/
def tyD : D → Option String
  | .non => some "NoneType"
  | .bl _ => some "bool"
  | .int _ => some "int"
  | .str _ => some "str"
  | .tup _ => some "tuple"
  | .tupx _ => some "tuple"
  | .lst _ => some "list"
  | .dic _ _ => some "dict"
  | _ => none
theorem SqL.tyX {K : PySem.W.Frag} {H : Hp} {a : Addr} {xs : List V} (h : SqL K H a xs) : TyX K H (.ref a) (.type "list") := by
  rcases h with (h | ⟨o, h⟩) | ⟨o, its, n, h1, h2, _⟩
  · exact .base (.lst h)
  · exact .base (.frz h)
  · exact .kList h1 h2
theorem SqT.tyX {K : PySem.W.Frag} {H : Hp} {a : Addr} {xs : List V} (h : SqT K H a xs) : TyX K H (.ref a) (.type "tuple") := by
  rcases h with (h | ⟨o, h⟩) | ⟨o, its, n, h1, h2, _⟩
  · exact .base (.tup h)
  · exact .fTuple h
  · exact .kTuple h1 h2
/-- what isinstance asks of a value -/
def TyY (K : PySem.W.Frag) (w : World) (H : Hp) (v : V) (t : Value) : Prop := TyX K H v t ∨ ∃ a, v = .ref a ∧ t = .type "dict" ∧ ∃ o, H a = some (DN a o) ∧ o.ExactDict
theorem RepB.tyX {K : PySem.W.Frag} {F : Addr → Prop} {H : Hp} {d : D} {v : V} {t : String} (h : RepB K C F H d v) (e : tyD d = some t) : TyY K C.w H v (.type t) := by
  cases d with
  | non => cases e; rw [h.nonI]; exact .inl (.base .non)
  | bl b => cases e; rw [h.blI]; exact .inl (.base (.bl b))
  | int b => cases e; rw [h.intI]; exact .inl (.base (.int b))
  | str b => cases e; rw [h.strI]; exact .inl (.base (.str b))
  | tup xs => cases e; obtain ⟨a, ws, rfl, l, _⟩ := h.tupI; exact .inl (SqT.tyX l)
  | tupx xs => cases e; obtain ⟨a, ws, rfl, l, _⟩ := (h.notL fun _ z => nomatch z).tupxI; exact .inl (SqT.tyX l)
  | lst xs => cases e; obtain ⟨a, ws, rfl, l, _⟩ := h.lstI; exact .inl (SqL.tyX l)
  | dic ks vs =>
    cases e
    obtain ⟨a, o, xs, rfl, l, g, _⟩ := (h.notL fun _ z => nomatch z).dicI
    exact .inr ⟨a, rfl, rfl, o, l, g.exact⟩
  | _ => cases e
def isiD (T : String) : D → Option D := fun d => (tyD d).bind fun t => (kitB t T).map D.bl
theorem isiD_ok {K : PySem.W.Frag} {F : Addr → Prop} {H : Hp} {T : String} {d r : D} {v : V} (h : RepB K C F H d v) (e : isiD T d = some r) : ∃ t b, TyY K C.w H v (.type t) ∧ PySem.W.kitOne K (.type t) (.type T) = some b ∧ r = .bl b := by
  obtain ⟨t, e1, e⟩ := bind_some e
  obtain ⟨b, e2, rfl⟩ := map_some e
  exact ⟨t, b, h.tyX e1, kit_ty e2, rfl⟩
theorem kit_ofY {X : Cx} {pins : List (Addr × Obj)} {σ : L2.St} {H : Hp} {s : Shared} {w : World} {x : V} {u t : Value} (I : Inv X pins σ H s) (rx : RelV x u) (ty : TyY X.K w H x t) : ∃ P : Heap → Prop, PySem.W.KitX X.K u t P ∧ P s.heap ∧ u ≠ .builtin "__main__.__loader__#opaque" := by
  rcases ty with ty | ⟨a, rfl, rfl, o, l, h2⟩
  · exact kit_of I rx ty
  · cases (show u = Value.ref a from rx)
    obtain ⟨h1, _⟩ := I.hok a _ l
    exact ⟨_, PySem.W.kitx_dict, ⟨o, h1, h2.1⟩, fun z => nomatch z⟩
def rIsiY (K : PySem.W.Frag) (w : World) : List V → Hp → VK → Prop := fun xs H Q => ∃ (x c : V) (t u : Value) (b : Bool), xs = [x, c] ∧ ClsV c u ∧ TyY K w H x t ∧ PySem.W.kitOne K t u = some b ∧ Q (.bl b) H
theorem call_isiY {X : Cx} {w : World} : CallR X (.builtin "isinstance") (rIsiY X.K w) := by
  intro pins s σ H xs us Q I r h
  obtain ⟨x, c, t, u, b, rfl, k, ty, e, q⟩ := h
  obtain ⟨u1, u2, rfl, r1, r2⟩ := vals2 r
  have e2 := k.eq r2
  subst e2
  obtain ⟨P, Z, p, hx⟩ := kit_ofY I r1 ty
  exact PySem.W.kia_one Z I.kIn p e hx fun tk => ⟨.bl b, H, I.tok tk, rfl, q⟩
/-- isinstance(e, T) -/
theorem qe_isi {x y : Str} {T : String} {p p2 : Pos} (ha : BE X C a fa) (hg : Gl X x) (hm : X.mg x = none) (hv : bootBuiltins x = some (.builtin "isinstance")) (hg2 : Gl X y) (hm2 : X.mg y = none) (hv2 : bootBuiltins y = some (.type T))
    (hn : x ≠ "__name__" := by decide) (hdb : (x == ("__debug__" : Str)) = false := by decide) (hn2 : y ≠ "__name__" := by decide) (hdb2 : (y == ("__debug__" : Str)) = false := by decide)
    (he : starEach [a, .Name y p2] X.env = (false, eval a X.env) :: starEach [.Name y p2] X.env := by rfl) (hpl : (backTo pos (starEach [.Name y p2] X.env)).any (·.1) = false := by rfl) (he2 : starEach [.Name y p2] X.env = (false, eval (.Name y p2) X.env) :: starEach [] X.env := by rfl) :
    QE X C (.Call (.Name x p) [a, .Name y p2] [] pos) (qU (isiD T) fa) :=
  wkE (pe_callB (call_isiY (w := C.w)) hg hm hv (pa_cons ha (pa_cons (pe_bltn (v := .ty T) hg2 hm2 hv2 rfl hn2 hdb2) pa_nil he2) he) hn hdb he hpl) fun σ H Q ⟨A, α, ρ, d, s, e, q⟩ => by
    obtain ⟨x, e1, e⟩ := bind_some e
    refine ⟨A, α, ρ, x, s, e1, fun v H1 g1 r1 => ?_⟩
    obtain ⟨t, b, h1, h2, rfl⟩ := isiD_ok r1 e
    exact ⟨v, .ty T, .type t, .type T, b, rfl, .ty T, h1, h2, q _ H1 g1 (.bl _)⟩
/-! ### subscripts -/
def ixD : O2
  | .lst xs, .int i => atI xs i
  | .tup xs, .int i => atI xs i
  | .tupx xs, .int i => atI xs i
  | .str z, .int i => if decide (z.length ≤ 16777216) then (atI z.cps.toList i).map fun c => .str ⟨#[c]⟩ else none
  | _, _ => none
theorem atI_rep {K : PySem.W.Frag} {F : Addr → Prop} {H : Hp} {ds : List D} {vs : List V} {i : Int} {d : D} (r : RepL K C F H ds vs) (h : atI ds i = some d) : ∃ v, atI vs i = some v ∧ Rep K C F H d v := by
  unfold atI at h ⊢
  rw [← r.length]
  obtain ⟨j, e1, e2⟩ := bind_some h
  obtain ⟨v, e3, r3⟩ := r.get e2
  exact ⟨v, by rw [e1]; exact e3, r3⟩
theorem ix_rd : IxR X (fun x y H Q => ∃ F d e r, DmF F H ∧ RepB X.K C F H d x ∧ RepB X.K C F H e y ∧ ixD d e = some r ∧ ∀ v H', Gro C H H' → Rep X.K C F H' r v → Q v H') := by
  intro value slice pins s σ H x y v u Q I rx ry h hs
  refine ix_seq value slice pins s σ H x y v u Q I rx ry ?_ hs
  obtain ⟨F, d, e, r, dm, r1, r2, e1, q⟩ := h
  cases d with
  | lst xs =>
    cases e <;> first | cases e1 | skip
    obtain ⟨a, ws, rfl, l, p⟩ := r1.lstI
    obtain ⟨w, e2, r3⟩ := atI_rep p e1
    exact .inl ⟨a, ws, _, w, rfl, r2.intI, l, e2, q _ H Gro.refl r3⟩
  | tup xs =>
    cases e <;> first | cases e1 | skip
    obtain ⟨a, ws, rfl, l, p⟩ := r1.tupI
    obtain ⟨w, e2, r3⟩ := atI_rep p e1
    exact .inr (.inl ⟨a, ws, _, w, rfl, r2.intI, l, e2, q _ H Gro.refl r3⟩)
  | tupx xs =>
    cases e <;> first | cases e1 | skip
    obtain ⟨a, ws, rfl, l, p, _⟩ := (r1.notL fun _ z => nomatch z).tupxI
    obtain ⟨w, e2, r3⟩ := atI_rep p e1
    exact .inr (.inl ⟨a, ws, _, w, rfl, r2.intI, l, e2, q _ H Gro.refl r3⟩)
  | str z =>
    cases e <;> first | cases e1 | skip
    by_cases c : decide (z.length ≤ 16777216) = true
    · rw [show ixD (.str z) (.int _) = (atI z.cps.toList _).map fun c => D.str ⟨#[c]⟩ from if_pos c] at e1
      obtain ⟨w, e2, rfl⟩ := map_some e1
      exact .inr (.inr ⟨z, _, w, r1.strI, r2.intI, by rw [← sl16]; exact of_decide_eq_true c, e2, q _ H Gro.refl (.str _)⟩)
    · rw [show ixD (.str z) (.int _) = none from if_neg c] at e1
      cases e1
  | _ => cases e <;> cases e1
theorem qe_ix (ha : BE X C a fa) (hb : BE X C b fb) (hs : PlainIx b := by intro _ _; rfl) : QE X C (.Subscript a b pos) (q2 ixD fa fb) :=
  wkE (pe_ix ix_rd ha hb hs) fun σ H Q h => by
    obtain ⟨A, α, ρ, d, s, e, q⟩ := h
    obtain ⟨x, e1, e⟩ := bind_some e
    obtain ⟨y, e2, e⟩ := bind_some e
    refine ⟨A, α, ρ, x, s, e1, fun v H1 g1 r1 => ⟨A, α, ρ, y, s.grow g1, e2, fun u H2 g2 r2 => ?_⟩⟩
    exact ⟨Fb A α, x, y, d, (s.grow (g1.trans g2)).dm, r1.grow g2, r2, e, fun v H' g3 r3 => q v H' (g1.trans (g2.trans g3)) r3⟩
/-! ### slices -/
def cutD (xs : List D) (lo hi : Option Int) : List D := (xs.drop (HT.sIx xs.length 0 lo)).take (HT.sIx xs.length xs.length hi - HT.sIx xs.length 0 lo)
theorem cut_rep {K : PySem.W.Frag} {F : Addr → Prop} {H : Hp} {ds : List D} {vs : List V} {lo hi : Option Int} (r : RepL K C F H ds vs) : RepL K C F H (cutD ds lo hi) (cutV vs lo hi) := by
  unfold cutD cutV
  rw [r.length]
  exact (r.drop _).take _
def rdP (K : PySem.W.Frag) (C : Ctx) (f : Rho → Option (Option Int)) : TO := fun σ H Q => ∃ A α ρ i, SR K C A α ρ σ H ∧ f ρ = some i ∧ ∀ H', Gro C H H' → Q i H'
abbrev QP (X : Cx) (C : Ctx) (e : Option Expr) (f : Rho → Option (Option Int)) : Prop := PO X e (rdP X.K C f)
theorem wkP {o : Option Expr} {t t' : TO} (h : PO X o t') (i : ∀ σ H Q, t σ H Q → t' σ H Q) : PO X o t := ⟨fun pins s σ H Q I q => h.run pins s σ H Q I (i σ H Q q)⟩
def pN : Rho → Option (Option Int) := fun _ => some none
def intO : D → Option Int
  | .int i => some i
  | _ => none
def pS (f : Rho → Option D) : Rho → Option (Option Int) := fun ρ => (f ρ).bind fun d => (intO d).map some
theorem intO_some {d : D} {i : Int} (h : intO d = some i) : d = .int i := by
  cases d <;> first | (cases h; rfl) | cases h
theorem qp_none : QP X C none pN := wkP po_none fun σ H Q ⟨A, α, ρ, d, s, e, q⟩ => by
  cases e
  exact q H Gro.refl
theorem qp_some (ha : QE X C a fa) : QP X C (some a) (pS fa) := wkP (po_some ha) fun σ H Q ⟨A, α, ρ, d, s, e, q⟩ => by
  obtain ⟨x, e1, e⟩ := bind_some e
  obtain ⟨i, e2, rfl⟩ := map_some e
  have e2 := intO_some e2
  subst e2
  refine ⟨A, α, ρ, _, s, e1, fun v H1 g1 r1 => ?_⟩
  cases r1
  exact ⟨_, rfl, q _ g1⟩
def tupI : D → Option (List D)
  | .tup xs => some xs
  | _ => none
theorem tupI_some {d : D} {i : List D} (h : tupI d = some i) : d = .tup i := by
  cases d <;> first | (cases h; rfl) | cases h
def lstI : D → Option (List D)
  | .lst xs => some xs
  | _ => none
theorem lstI_some {d : D} {i : List D} (h : lstI d = some i) : d = .lst i := by
  cases d <;> first | (cases h; rfl) | cases h
theorem slT_some {o : Option D} {pl ph : Option (Option Int)} {d : D} (e : (o.bind fun x => (tupI x).bind fun xs => pl.bind fun l => ph.bind fun h => some (D.tup (cutD xs l h))) = some d) : ∃ xs l h, o = some (.tup xs) ∧ pl = some l ∧ ph = some h ∧ d = .tup (cutD xs l h) := by
  obtain ⟨x, e1, f1⟩ := bind_some e
  obtain ⟨xs, e2, f2⟩ := bind_some f1
  obtain ⟨l, e3, f3⟩ := bind_some f2
  obtain ⟨h, e4, f4⟩ := bind_some f3
  exact ⟨xs, l, h, by rw [e1, tupI_some e2], e3, e4, (Option.some.inj f4).symm⟩
theorem slL_some {o : Option D} {pl ph : Option (Option Int)} {d : List D} (e : (o.bind fun x => (lstI x).bind fun xs => pl.bind fun l => ph.bind fun h => some (cutD xs l h)) = some d) : ∃ xs l h, o = some (.lst xs) ∧ pl = some l ∧ ph = some h ∧ d = cutD xs l h := by
  obtain ⟨x, e1, f1⟩ := bind_some e
  obtain ⟨xs, e2, f2⟩ := bind_some f1
  obtain ⟨l, e3, f3⟩ := bind_some f2
  obtain ⟨h, e4, f4⟩ := bind_some f3
  exact ⟨xs, l, h, by rw [e1, lstI_some e2], e3, e4, (Option.some.inj f4).symm⟩
def qSlT (fa : Rho → Option D) (pl ph : Rho → Option (Option Int)) : Rho → Option D := fun ρ => (fa ρ).bind fun x => (tupI x).bind fun xs => (pl ρ).bind fun l => (ph ρ).bind fun h => some (.tup (cutD xs l h))
def qSlL (fa : Rho → Option D) (pl ph : Rho → Option (Option Int)) : Rho → Option (List D) := fun ρ => (fa ρ).bind fun x => (lstI x).bind fun xs => (pl ρ).bind fun l => (ph ρ).bind fun h => some (cutD xs l h)
theorem cut_whole {xs : List D} {lo hi : Option Int} (h : HT.sIx xs.length 0 lo = 0 ∧ HT.sIx xs.length xs.length hi = xs.length) : cutD xs lo hi = xs := by
  unfold cutD
  rw [h.1, h.2]
  simp
theorem qe_slT {lo hi : Option Expr} {p2 : Pos} {pl ph : Rho → Option (Option Int)} (ha : BE X C a fa) (hl : QP X C lo pl) (hh : QP X C hi ph) : QE X C (.Subscript a (.Slice lo hi none p2) pos) (qSlT fa pl ph) :=
  wkE (pe_slice sl_tupA ha hl hh) fun σ H Q h => by
    obtain ⟨A, α, ρ, d, s, e, q⟩ := h
    obtain ⟨xs, l, hh, e1, e3, e4, rfl⟩ := slT_some e
    refine ⟨A, α, ρ, _, s, e1, fun v H1 g1 r1 => ⟨A, α, ρ, l, s.grow g1, e3, fun H2 g2 => ⟨A, α, ρ, hh, s.grow (g1.trans g2), e4, fun H3 g3 => ?_⟩⟩⟩
    obtain ⟨a, ws, rfl, lr, p⟩ := ((r1.grow g2).grow g3).tupI
    have g := g1.trans (g2.trans g3)
    refine ⟨a, ws, rfl, lr, fun z => q _ _ g ?_, fun _ b hb => q _ _ (g.trans (Gro.new hb)) (repNewT hb (cut_rep p))⟩
    rw [cut_whole (by rw [p.length]; exact z)]
    exact .tup lr p
theorem fe_slL {lo hi : Option Expr} {p2 : Pos} {pl ph : Rho → Option (Option Int)} (ha : BE X C a fa) (hl : QP X C lo pl) (hh : QP X C hi ph) : FE X C (.Subscript a (.Slice lo hi none p2) pos) (qSlL fa pl ph) :=
  wkE (pe_slice sl_list ha hl hh) fun σ H Q h => by
    obtain ⟨A, α, ρ, d, s, e, q⟩ := h
    obtain ⟨xs, l, hh, e1, e3, e4, rfl⟩ := slL_some e
    refine ⟨A, α, ρ, _, s, e1, fun v H1 g1 r1 => ⟨A, α, ρ, l, s.grow g1, e3, fun H2 g2 => ⟨A, α, ρ, hh, s.grow (g1.trans g2), e4, fun H3 g3 => ?_⟩⟩⟩
    obtain ⟨a, ws, rfl, lr, p⟩ := ((r1.grow g2).grow g3).lstI
    have g := g1.trans (g2.trans g3)
    exact ⟨a, ws, rfl, lr, fun b hb => q _ _ _ (g.trans (Gro.new hb)) (g.nn _ hb) upd_same ((cut_rep p).mv (mvNew hb))⟩
end
end VL
end
section
set_option Elab.async false
set_option linter.all false
set_option maxRecDepth 100000
set_option maxHeartbeats 2000000
/-! VL4: what is walked; targets; list comprehensions. -/
namespace VL
open PySem PySem.Spec L2
open PyProof.Rows hiding St
section
variable {F F' F2 : Addr → Prop} {H H' H2 : Hp} {K : PySem.W.Frag} {C : Ctx}
theorem Mv.trans (a : Mv F F' H H') (b : Mv F' F2 H' H2) : Mv F F2 H H2 where
  kp := fun c o h n => by
    have e := a.kp c o h n
    refine b.kp c o e ?_
    rcases n with ⟨n, t⟩ | n
    · exact .inl ⟨a.nf c o h t n, t⟩
    · exact .inr n
  nf := fun c o h t n => b.nf c o (a.kp c o h (.inl ⟨n, t⟩)) t (a.nf c o h t n)
theorem Mv.refl : Mv F F H H := ⟨Kp.refl, fun _ _ _ _ n => n⟩
/-! ### walks -/
/-- J yields what stands for these, as long as what is represented is kept -/
def ItR (K : PySem.W.Frag) (C : Ctx) (J : It) (F : Addr → Prop) (H : Hp) (xs : List D) : Prop := ∀ F' H', Mv F F' H H' →
  (∀ i x, xs[i]? = some x → J.go i H' ∧ ∀ v H2, J.yld i H' v H2 → Gro C H' H2 ∧ Rep K C F' H2 x v) ∧ ∀ i, xs.length ≤ i → J.stop i H'
theorem ItR.mv {J : It} {xs : List D} (h : ItR K C J F H xs) (m : Mv F F' H H') : ItR K C J F' H' xs := fun F2 H2 m2 => h F2 H2 (m.trans m2)
theorem itr_list {a : Addr} {vs : List V} {xs : List D} (l : LstR K F H a vs) (r : RepL K C F H xs vs) : ItR K C (Itl K a) F H xs := fun F' H' m => by
  have l' := m.lst l
  have r' := r.mv m
  refine ⟨fun i x e => ?_, fun i e => ⟨vs, l'.sq, by rw [← r'.length]; exact e⟩⟩
  obtain ⟨v, e2, rv⟩ := r'.get e
  refine ⟨⟨vs, v, l'.sq, e2⟩, fun w H2 y => ?_⟩
  obtain ⟨rfl, y⟩ := y
  have e3 := y vs l'.sq
  rw [e2] at e3
  cases e3
  exact ⟨Gro.refl, rv⟩
theorem itr_tup {a : Addr} {vs : List V} {xs : List D} (l : SqT K H a vs) (r : RepL K C F H xs vs) : ItR K C (Itt K a) F H xs := fun F' H' m => by
  have l' := m.kp.sqT l
  have r' := r.mv m
  refine ⟨fun i x e => ?_, fun i e => ⟨vs, l', by rw [← r'.length]; exact e⟩⟩
  obtain ⟨v, e2, rv⟩ := r'.get e
  refine ⟨⟨vs, v, l', e2⟩, fun w H2 y => ?_⟩
  obtain ⟨rfl, y⟩ := y
  have e3 := y vs l'
  rw [e2] at e3
  cases e3
  exact ⟨Gro.refl, rv⟩
def rngL (lo : Int) (n : Nat) : List D := (List.range n).map fun (i : Nat) => .int (lo + (i : Int))
theorem itr_rng {lo : Int} {n : Nat} : ItR K C (Itr lo n) F H (rngL lo n) := fun F' H' m => by
  refine ⟨fun i x e => ?_, fun i e => ?_⟩
  · unfold rngL at e
    rw [List.getElem?_map] at e
    obtain ⟨j, e1, rfl⟩ := map_some e
    have hj : j = i ∧ i < n := by
      rw [List.getElem?_eq_some_iff] at e1
      obtain ⟨h1, h2⟩ := e1
      rw [List.getElem_range] at h2
      rw [List.length_range] at h1
      exact ⟨h2.symm, h1⟩
    obtain ⟨rfl, hi⟩ := hj
    refine ⟨hi, fun v H2 y => ?_⟩
    obtain ⟨rfl, rfl⟩ := y
    exact ⟨Gro.refl, .int _⟩
  · unfold rngL at e
    rw [List.length_map, List.length_range] at e
    exact e
theorem itr_zipL {a b : Addr} {vs ws : List V} {xs ys : List D} (l : LstR K F H a vs) (r : RepL K C F H xs vs) (l2 : LstR K F H b ws) (r2 : RepL K C F H ys ws) : ItR K C (Itz K a b) F H (List.zipWith (fun x y => .tup [x, y]) xs ys) := fun F' H' m => by
  have l' := (m.lst l).sq
  have l2' := (m.lst l2).sq
  have r' := r.mv m
  have r2' := r2.mv m
  refine ⟨fun i x e => ?_, fun i e => ⟨vs, ws, l', l2', ?_⟩⟩
  · rw [List.getElem?_zipWith] at e
    cases e1 : xs[i]? with
    | none => rw [e1] at e; cases e
    | some x1 =>
      cases e2 : ys[i]? with
      | none => rw [e1, e2] at e; cases e
      | some y1 =>
        rw [e1, e2] at e
        cases e
        obtain ⟨v, e3, rv⟩ := r'.get e1
        obtain ⟨w, e4, rw'⟩ := r2'.get e2
        refine ⟨⟨vs, ws, v, w, l', l2', e3, e4⟩, fun u H2 y => ?_⟩
        obtain ⟨T, x, y', rfl, hT, rfl, h1, h2⟩ := y
        have q1 := h1 vs l'
        rw [e3] at q1
        cases q1
        have q2 := h2 ws l2'
        rw [e4] at q2
        cases q2
        exact ⟨Gro.new hT, repNewT hT (.cons rv (.cons rw' .nil))⟩
  · rw [List.length_zipWith] at e
    rw [← r'.length, ← r2'.length]
    omega
theorem itr_zipT {a b : Addr} {vs ws : List V} {xs ys : List D} (l : SqT K H a vs) (r : RepL K C F H xs vs) (l2 : SqT K H b ws) (r2 : RepL K C F H ys ws) : ItR K C (RZ.ItzT K a b) F H (List.zipWith (fun x y => .tup [x, y]) xs ys) := fun F' H' m => by
  have l' := m.kp.sqT l
  have l2' := m.kp.sqT l2
  have r' := r.mv m
  have r2' := r2.mv m
  refine ⟨fun i x e => ?_, fun i e => ⟨vs, ws, l', l2', ?_⟩⟩
  · rw [List.getElem?_zipWith] at e
    cases e1 : xs[i]? with
    | none => rw [e1] at e; cases e
    | some x1 =>
      cases e2 : ys[i]? with
      | none => rw [e1, e2] at e; cases e
      | some y1 =>
        rw [e1, e2] at e
        cases e
        obtain ⟨v, e3, rv⟩ := r'.get e1
        obtain ⟨w, e4, rw'⟩ := r2'.get e2
        refine ⟨⟨vs, ws, v, w, l', l2', e3, e4⟩, fun u H2 y => ?_⟩
        obtain ⟨T, x, y', rfl, hT, rfl, h1, h2⟩ := y
        have q1 := h1 vs l'
        rw [e3] at q1
        cases q1
        have q2 := h2 ws l2'
        rw [e4] at q2
        cases q2
        exact ⟨Gro.new hT, repNewT hT (.cons rv (.cons rw' .nil))⟩
  · rw [List.length_zipWith] at e
    rw [← r'.length, ← r2'.length]
    omega
theorem zipIdx_get (xs : List D) (i : Nat) : xs.zipIdx[i]? = xs[i]?.map fun x => (x, i) := by
  rw [List.getElem?_zipIdx]
  simp
def enumL (xs : List D) : List D := xs.zipIdx.map fun p => .tup [.int (p.2 : Nat), p.1]
theorem itr_enum {a : Addr} {vs : List V} {xs : List D} (l : LstR K F H a vs) (r : RepL K C F H xs vs) : ItR K C (Ite K a) F H (enumL xs) := fun F' H' m => by
  have l' := (m.lst l).sq
  have r' := r.mv m
  refine ⟨fun i x e => ?_, fun i e => ⟨vs, l', ?_⟩⟩
  · unfold enumL at e
    rw [List.getElem?_map, zipIdx_get] at e
    cases e1 : xs[i]? with
    | none => rw [e1] at e; cases e
    | some x1 =>
      rw [e1] at e
      cases e
      obtain ⟨v, e3, rv⟩ := r'.get e1
      refine ⟨⟨vs, v, l', e3⟩, fun u H2 y => ?_⟩
      obtain ⟨T, x, rfl, hT, rfl, h1⟩ := y
      have q1 := h1 vs l'
      rw [e3] at q1
      cases q1
      exact ⟨Gro.new hT, repNewT hT (.cons (.int _) (.cons rv .nil))⟩
  · unfold enumL at e
    rw [List.length_map, List.length_zipIdx] at e
    rw [← r'.length]
    exact e
end
def rdI (K : PySem.W.Frag) (C : Ctx) (f : Rho → Option (List D)) : TI := fun σ H R => ∃ A α ρ xs, SR K C A α ρ σ H ∧ f ρ = some xs ∧ ∀ J H', Gro C H H' → ItR K C J (Fb A α) H' xs → R J H'
abbrev QI (X : Cx) (C : Ctx) (tg e : Expr) (f : Rho → Option (List D)) : Prop := PI X tg e (rdI X.K C f)
section
variable {X : Cx} {C : Ctx} {tg e a b : Expr} {es : List Expr} {pos : Pos} {fa fb f : Rho → Option D} {fs : Rho → Option (List D)}
theorem wkI {t t' : TI} (h : PI X tg e t') (i : ∀ σ H Q, t σ H Q → t' σ H Q) : PI X tg e t := ⟨fun pins s σ H Q I q => h.run pins s σ H Q I (i σ H Q q)⟩
theorem pi_or {t t' : TI} (h : PI X tg e t) (h' : PI X tg e t') : PI X tg e (fun σ H R => t σ H R ∨ t' σ H R) := ⟨fun pins s σ H Q I q => q.elim (h.run pins s σ H Q I) (h'.run pins s σ H Q I)⟩
def itemsD : D → Option (List D)
  | .lst xs => some xs
  | .tup xs => some xs
  | .tupx xs => some xs
  | _ => none
def iQ (f : Rho → Option D) : Rho → Option (List D) := fun ρ => (f ρ).bind itemsD
/-- a list or a tuple -/
theorem qi_seq (h : QE X C e f) : QI X C tg e (iQ f) :=
  wkI (pi_or (pi_list h) (pi_tup h)) fun σ H Q ⟨A, α, ρ, xs, s, e, q⟩ => by
    obtain ⟨d, e1, e2⟩ := bind_some e
    cases d with
    | lst ys =>
      cases e2
      refine .inl ⟨A, α, ρ, _, s, e1, fun v H1 g1 r1 => ?_⟩
      obtain ⟨a, vs, rfl, l, r⟩ := r1.lstI
      exact ⟨a, rfl, ⟨vs, l.sq⟩, q _ H1 g1 (itr_list l r)⟩
    | tup ys =>
      cases e2
      refine .inr ⟨A, α, ρ, _, s, e1, fun v H1 g1 r1 => ?_⟩
      obtain ⟨a, vs, rfl, l, r⟩ := r1.tupI
      exact ⟨a, rfl, ⟨vs, l⟩, q _ H1 g1 (itr_tup l r)⟩
    | tupx ys =>
      cases e2
      refine .inr ⟨A, α, ρ, _, s, e1, fun v H1 g1 r1 => ?_⟩
      obtain ⟨a, vs, rfl, l, r, _⟩ := r1.tupxI
      exact ⟨a, rfl, ⟨vs, l⟩, q _ H1 g1 (itr_tup l r)⟩
    | _ => cases e2
/-- a list that was just made -/
theorem qi_new (h : FE X C e fs) : QI X C tg e fs :=
  wkI (pi_list h) fun σ H Q ⟨A, α, ρ, xs, s, e, q⟩ => by
    refine ⟨A, α, ρ, _, s, e, fun a vs H1 g1 n l r => ?_⟩
    exact ⟨a, rfl, ⟨vs, SqL.of l⟩, q _ H1 g1 (itr_list (.inl ⟨.inl l, s.new n⟩) (r.mv mvAd))⟩
def small62 (i : Int) : Bool := decide (i.natAbs < 4611686018427387904)
theorem small62_ok {i : Int} (h : small62 i = true) : -(2 ^ 62) ≤ i ∧ i < 2 ^ 62 := by
  unfold small62 at h
  rw [decide_eq_true_eq] at h
  exact ⟨by omega, by omega⟩
def rangeD : List D → Option (List D)
  | [.int j] => if small62 j then some (rngL 0 j.toNat) else none
  | [.int i, .int j] => if small62 i && small62 j then some (rngL i (j - i).toNat) else none
  | _ => none
def iC (sem : List D → Option (List D)) (fs : Rho → Option (List D)) : Rho → Option (List D) := fun ρ => (fs ρ).bind sem
theorem RepL.one {K : PySem.W.Frag} {F : Addr → Prop} {H : Hp} {d : D} {vs : List V} (h : RepL K C F H [d] vs) : ∃ v, vs = [v] ∧ Rep K C F H d v := by
  cases h with | cons r t => cases t; exact ⟨_, rfl, r⟩
theorem RepL.two {K : PySem.W.Frag} {F : Addr → Prop} {H : Hp} {d e : D} {vs : List V} (h : RepL K C F H [d, e] vs) : ∃ v w, vs = [v, w] ∧ Rep K C F H d v ∧ Rep K C F H e w := by
  cases h with | cons r t => cases t with | cons r2 t2 => cases t2; exact ⟨_, _, rfl, r, r2⟩
theorem qi_range1 {p : Pos} (hg : Gl X "range") (hm : X.mg "range" = none) (ha : QA X C [a] fs) (hs : starEach [a] X.env = [(false, eval a X.env)] := by rfl) : QI X C tg (.Call (.Name "range" p) [a] [] pos) (iC rangeD fs) :=
  wkI (pi_range1 hg hm ha.pa hs) fun σ H Q ⟨A, α, ρ, xs, s, e, q⟩ => by
    obtain ⟨ds, e1, e2⟩ := bind_some e
    have hl := ha.len ρ ds e1
    match ds, hl with
    | [d], _ =>
      cases d <;> first | cases e2 | skip
      obtain ⟨c, rfl⟩ := if_some e2
      obtain ⟨c1, c2⟩ := small62_ok c
      refine ⟨A, α, ρ, _, s, e1, fun vs H1 g1 r1 => ?_⟩
      obtain ⟨v, rfl, r⟩ := r1.one
      cases r
      exact ⟨_, rfl, c1, c2, q _ H1 g1 itr_rng⟩
theorem qi_range2 {p : Pos} (hg : Gl X "range") (hm : X.mg "range" = none) (ha : QA X C [a, b] fs) (hs : starEach [a, b] X.env = [(false, eval a X.env), (false, eval b X.env)] := by rfl) (hs2 : starEach [b] X.env = [(false, eval b X.env)] := by rfl) : QI X C tg (.Call (.Name "range" p) [a, b] [] pos) (iC rangeD fs) :=
  wkI (pi_range2 hg hm ha.pa hs hs2) fun σ H Q ⟨A, α, ρ, xs, s, e, q⟩ => by
    obtain ⟨ds, e1, e2⟩ := bind_some e
    have hl := ha.len ρ ds e1
    match ds, hl with
    | [d, d'], _ =>
      cases d <;> cases d' <;> first | cases e2 | skip
      obtain ⟨c, rfl⟩ := if_some e2
      rw [Bool.and_eq_true] at c
      obtain ⟨c1, c2⟩ := small62_ok c.1
      obtain ⟨c3, c4⟩ := small62_ok c.2
      refine ⟨A, α, ρ, _, s, e1, fun vs H1 g1 r1 => ?_⟩
      obtain ⟨v, w, rfl, r, r'⟩ := r1.two
      cases r
      cases r'
      exact ⟨_, _, rfl, ⟨c1, c2, c3, c4⟩, q _ H1 g1 itr_rng⟩
def zipD : List D → Option (List D)
  | [.lst xs, .lst ys] => some (List.zipWith (fun x y => .tup [x, y]) xs ys)
  | [.tup xs, .tup ys] => some (List.zipWith (fun x y => .tup [x, y]) xs ys)
  | _ => none
theorem qi_zip {p tpos : Pos} {elts : List Expr} {kk : Nat} (hg : Gl X "zip") (hm : X.mg "zip" = none) (ha : QA X C [a, b] fs)
    (hs : starEach [a, b] X.env = (false, eval a X.env) :: starEach [b] X.env := by rfl) (hpl : (backTo pos (starEach [b] X.env)).any (·.1) = false := by rfl) :
    QI X C (.Tuple elts kk tpos) (.Call (.Name "zip" p) [a, b] [] pos) (iC zipD fs) :=
  wkI (RZ.pi_zipA hg hm ha.pa hs hpl) fun σ H Q ⟨A, α, ρ, xs, s, e, q⟩ => by
    obtain ⟨ds, e1, e2⟩ := bind_some e
    refine ⟨A, α, ρ, _, s, e1, fun vs H1 g1 r1 => ?_⟩
    unfold zipD at e2
    split at e2
    · cases e2
      obtain ⟨v, w, rfl, r, r'⟩ := r1.two
      obtain ⟨a1, v1, rfl, l, p⟩ := r.lstI
      obtain ⟨a2, v2, rfl, l2, p2⟩ := r'.lstI
      exact ⟨a1, a2, v1, v2, rfl, .inl ⟨l.sq, l2.sq, q _ H1 g1 (itr_zipL l p l2 p2)⟩⟩
    · cases e2
      obtain ⟨v, w, rfl, r, r'⟩ := r1.two
      obtain ⟨a1, v1, rfl, l, p⟩ := r.tupI
      obtain ⟨a2, v2, rfl, l2, p2⟩ := r'.tupI
      exact ⟨a1, a2, v1, v2, rfl, .inr ⟨l, l2, q _ H1 g1 (itr_zipT l p l2 p2)⟩⟩
    · cases e2
def enumD : List D → Option (List D)
  | [.lst xs] => some (enumL xs)
  | _ => none
theorem qi_enum {p tpos : Pos} {elts : List Expr} {kk : Nat} (hg : Gl X "enumerate") (hm : X.mg "enumerate" = none) (ha : QA X C [a] fs) (hs : starEach [a] X.env = [(false, eval a X.env)] := by rfl) :
    QI X C (.Tuple elts kk tpos) (.Call (.Name "enumerate" p) [a] [] pos) (iC enumD fs) :=
  wkI (pi_enum hg hm ha.pa hs) fun σ H Q ⟨A, α, ρ, xs, s, e, q⟩ => by
    obtain ⟨ds, e1, e2⟩ := bind_some e
    refine ⟨A, α, ρ, _, s, e1, fun vs H1 g1 r1 => ?_⟩
    unfold enumD at e2
    split at e2
    · cases e2
      obtain ⟨v, rfl, r⟩ := r1.one
      obtain ⟨a1, v1, rfl, l, p⟩ := r.lstI
      exact ⟨a1, v1, rfl, l.sq, q _ H1 g1 (itr_enum l p)⟩
    · cases e2
/-! ### list(range(..)), tuple(range(..)) -/
def rdR (K : PySem.W.Frag) (C : Ctx) (f : Rho → Option (Int × Int)) : L2.St → Hp → (Int → Int → Hp → Prop) → Prop := fun σ H Q => ∃ A α ρ p, SR K C A α ρ σ H ∧ f ρ = some p ∧ ∀ H', Gro C H H' → Q p.1 p.2 H'
abbrev QR (X : Cx) (C : Ctx) (e : Expr) (f : Rho → Option (Int × Int)) : Prop := PRg X e (rdR X.K C f)
theorem wkR {t t' : L2.St → Hp → (Int → Int → Hp → Prop) → Prop} (h : PRg X e t') (i : ∀ σ H Q, t σ H Q → t' σ H Q) : PRg X e t := fun pins s σ H Q I q => h pins s σ H Q I (i σ H _ q)
def rg1 (fa : Rho → Option D) : Rho → Option (Int × Int) := fun ρ => (fa ρ).bind fun x => (intO x).map fun j => (0, j)
def rg2 (fa fb : Rho → Option D) : Rho → Option (Int × Int) := fun ρ => (fa ρ).bind fun x => (intO x).bind fun i => (fb ρ).bind fun y => (intO y).map fun j => (i, j)
theorem qr_1 {p : Pos} (hg : Gl X "range") (hm : X.mg "range" = none) (ha : QE X C a fa) (na : starEach [a] X.env = (false, eval a X.env) :: starEach [] X.env := by rfl) : QR X C (.Call (.Name "range" p) [a] [] pos) (rg1 fa) :=
  wkR (prg_1 hg hm ha na) fun σ H Q ⟨A, α, ρ, p, s, e, q⟩ => by
    obtain ⟨x, e1, e2⟩ := bind_some e
    obtain ⟨j, e3, rfl⟩ := map_some e2
    have e4 := intO_some e3
    rw [e4] at e1
    refine ⟨A, α, ρ, _, s, e1, fun v H1 g1 r1 => ?_⟩
    cases r1
    exact ⟨_, rfl, q H1 g1⟩
theorem qr_2 {p : Pos} (hg : Gl X "range") (hm : X.mg "range" = none) (ha : QE X C a fa) (hb : QE X C b fb) (na : starEach [a, b] X.env = (false, eval a X.env) :: starEach [b] X.env := by rfl) (nb : starEach [b] X.env = (false, eval b X.env) :: starEach [] X.env := by rfl) (hp : (backTo pos (starEach [b] X.env)).any (·.1) = false := by rfl) :
    QR X C (.Call (.Name "range" p) [a, b] [] pos) (rg2 fa fb) :=
  wkR (prg_2 hg hm ha hb na nb hp) fun σ H Q ⟨A, α, ρ, p, s, e, q⟩ => by
    obtain ⟨x, e1, e2⟩ := bind_some e
    obtain ⟨i, e3, e4⟩ := bind_some e2
    obtain ⟨y, e5, e6⟩ := bind_some e4
    obtain ⟨j, e7, rfl⟩ := map_some e6
    rw [intO_some e3] at e1
    rw [intO_some e7] at e5
    refine ⟨A, α, ρ, _, s, e1, fun v H1 g1 r1 => ⟨A, α, ρ, _, s.grow g1, e5, fun w H2 g2 r2 => ?_⟩⟩
    cases r1
    cases r2
    exact ⟨_, _, rfl, rfl, q H2 (g1.trans g2)⟩
def rgOk (i j : Int) : Bool := decide (i.natAbs < 4611686018427387904) && decide (j.natAbs < 4611686018427387904) && decide ((j - i).toNat ≤ 16777216)
theorem rgOk_ok {i j : Int} (h : rgOk i j = true) : RgOk i j := by
  unfold rgOk at h
  simp only [Bool.and_eq_true, decide_eq_true_eq] at h
  obtain ⟨⟨h1, h2⟩, h3⟩ := h
  exact ⟨by omega, by omega, by omega, by omega, by omega⟩
theorem rgV_rep {K : PySem.W.Frag} {F : Addr → Prop} {H : Hp} (i j : Int) : RepL K C F H (rngL i (j - i).toNat) (rgV i j) := by
  unfold rngL rgV
  have q := RepL.ints (K := K) (C := C) (F := F) (H := H) ((List.range (j - i).toNat).map fun (n : Nat) => i + (n : Int))
  rw [List.map_map, List.map_map] at q
  exact q
def qLRg (f : Rho → Option (Int × Int)) : Rho → Option (List D) := fun ρ => (f ρ).bind fun p => if rgOk p.1 p.2 then some (rngL p.1 (p.2 - p.1).toNat) else none
theorem fe_listRg {p : Pos} {fr : Rho → Option (Int × Int)} (hc : X.calm = true) (hg : Gl X "list") (hm : X.mg "list" = none) (he : QR X C e fr) (na : starEach [e] X.env = (false, eval e X.env) :: starEach [] X.env := by rfl) : FE X C (.Call (.Name "list" p) [e] [] pos) (qLRg fr) :=
  wkE (pe_listRg hc hg hm he na) fun σ H Q ⟨A, α, ρ, p, s, e, q⟩ => by
    obtain ⟨x, e1, e2⟩ := bind_some e
    obtain ⟨c, rfl⟩ := if_some e2
    exact ⟨A, α, ρ, x, s, e1, fun H1 g1 => ⟨rgOk_ok c, fun b hb => q _ _ _ (g1.trans (Gro.new hb)) (g1.nn _ hb) upd_same (rgV_rep _ _)⟩⟩
theorem qe_tupRg {p : Pos} {fr : Rho → Option (Int × Int)} (hc : X.calm = true) (hg : Gl X "tuple") (hm : X.mg "tuple" = none) (he : QR X C e fr) (na : starEach [e] X.env = (false, eval e X.env) :: starEach [] X.env := by rfl) : QE X C (.Call (.Name "tuple" p) [e] [] pos) (fun ρ => tupO (qLRg fr ρ)) :=
  wkE (pe_tupRg hc hg hm he na) fun σ H Q ⟨A, α, ρ, p, s, e, q⟩ => by
    obtain ⟨ds, e0, rfl⟩ := tupO_some e
    obtain ⟨x, e1, e2⟩ := bind_some e0
    obtain ⟨c, rfl⟩ := if_some e2
    exact ⟨A, α, ρ, x, s, e1, fun H1 g1 => ⟨rgOk_ok c, fun b hb => q _ _ (g1.trans (Gro.new hb)) (repNewT hb (rgV_rep _ _))⟩⟩
end
/-! ### targets -/
def rdG (K : PySem.W.Frag) (C : Ctx) (vs : List Nat) (g : D → Rho → Option Rho) : TG := fun v σ H Q => ∃ A α ρ d ρ', SR K C A α ρ σ H ∧ Rep K C (Fb A α) H d v ∧ g d ρ = some ρ' ∧
  ∀ σ', SR K C A α ρ' σ' H → (∀ j, j ∉ vs → σ'[j]? = σ[j]?) → σ'.length = σ.length → Q σ' H
def rdGs (K : PySem.W.Frag) (C : Ctx) (vs : List Nat) (g : List D → Rho → Option Rho) : TGs := fun v σ H Q => ∃ A α ρ d ρ', SR K C A α ρ σ H ∧ RepL K C (Fb A α) H d v ∧ g d ρ = some ρ' ∧
  ∀ σ', SR K C A α ρ' σ' H → (∀ j, j ∉ vs → σ'[j]? = σ[j]?) → σ'.length = σ.length → Q σ' H
abbrev QG (X : Cx) (C : Ctx) (vs : List Nat) (tg : Expr) (g : D → Rho → Option Rho) : Prop := PG X tg (rdG X.K C vs g)
abbrev QGs (X : Cx) (C : Ctx) (vs : List Nat) (tg : List Expr) (g : List D → Rho → Option Rho) : Prop := PGs X tg (rdGs X.K C vs g)
section
variable {K : PySem.W.Frag} {C : Ctx} {A : Addr → Prop} {α : Nat → Option Addr} {ρ : Rho} {σ : L2.St} {H : Hp}
theorem SR.setV (s : SR K C A α ρ σ H) {i : Nat} {d : D} {v : V} (n : α i = none) (r : Rep K C (Fb A α) H d v) : SR K C A α (ρ.set i (.v d)) (σ.set i (some v)) H := by
  refine ⟨by rw [List.length_set, List.length_set, s.len], s.inj, fun j h => s.out j (by rw [List.length_set] at h; exact h), fun j x e => ?_, s.dom, s.na, s.tabs⟩
  by_cases hj : i = j
  · subst hj
    by_cases hi : i < ρ.length
    · rw [List.getElem?_set_self hi] at e
      cases e
      rw [List.getElem?_set_self (by rw [← s.len]; exact hi)]
      exact ⟨n, v, rfl, r⟩
    · rw [List.getElem?_eq_none (by rw [List.length_set]; omega)] at e
      cases e
  · rw [List.getElem?_set_ne hj] at e
    rw [List.getElem?_set_ne hj]
    exact s.sl j x e
def notOwn : Option Sl → Bool
  | some (.o _) => false
  | some (.w _) => false
  | some _ => true
  | none => false
theorem SR.notOwn (s : SR K C A α ρ σ H) {i : Nat} (h : notOwn ρ[i]? = true) : α i = none := by
  cases e : ρ[i]? with
  | none => rw [e] at h; cases h
  | some x =>
    cases x with
    | no => exact s.sl i _ e
    | v d => exact (s.sl i _ e).1
    | o ds => rw [e] at h; cases h
    | w es => rw [e] at h; cases h
end
def gV (i : Nat) : D → Rho → Option Rho := fun d ρ => if notOwn ρ[i]? then some (ρ.set i (.v d)) else none
def gN : List D → Rho → Option Rho
  | [], ρ => some ρ
  | _ :: _, _ => none
def gC (g : D → Rho → Option Rho) (gs : List D → Rho → Option Rho) : List D → Rho → Option Rho
  | d :: ds, ρ => (g d ρ).bind (gs ds)
  | [], _ => none
def gT (gs : List D → Rho → Option Rho) : D → Rho → Option Rho
  | .tup ds, ρ => gs ds ρ
  | _, _ => none
section
variable {X : Cx} {C : Ctx} {vs : List Nat} {tg : Expr} {es : List Expr} {pos : Pos} {g : D → Rho → Option Rho} {gs : List D → Rho → Option Rho}
theorem qg_name {i : Nat} {x : Str} (hN : X.N.Nodup) (hi : X.N[i]? = some x) (hx : Loc X.env.scope x) (hm : i ∈ vs := by decide) (hf : X.fn x = true ∨ X.env.scope.names.lookup x = some .local := by first | exact .inl rfl | exact .inr rfl | assumption) : QG X C vs (.Name x pos) (gV i) := by
  have h := pg_name (pos := pos) hN hi hx hf
  refine ⟨fun pins s σ H v u Q I r q => h.run pins s σ H v u Q I r ?_⟩
  obtain ⟨A, α, ρ, d, ρ', sr, rp, e, q⟩ := q
  obtain ⟨c, rfl⟩ := if_some e
  refine q _ (sr.setV (sr.notOwn c) rp) (fun j hj => ?_) (List.length_set ..)
  rw [List.getElem?_set_ne (fun z => hj (by rw [← z]; exact hm))]
theorem qgs_nil : QGs X C vs [] gN := by
  refine ⟨fun pins s σ H v u Q I r q => pgs_nil.run pins s σ H v u Q I r ?_⟩
  obtain ⟨A, α, ρ, d, ρ', sr, rp, e, q⟩ := q
  cases rp with
  | nil =>
    cases e
    exact ⟨rfl, q σ sr (fun _ _ => rfl) rfl⟩
  | cons _ _ => cases e
theorem qgs_cons {e : Expr} (h1 : QG X C vs e g) (h2 : QGs X C vs es gs) (hs : (assignEach (e :: es) X.env).map (·.2) = assign e X.env :: (assignEach es X.env).map (·.2) := by rfl) : QGs X C vs (e :: es) (gC g gs) := by
  refine ⟨fun pins s σ H v u Q I r q => (pgs_cons h1 h2 hs).run pins s σ H v u Q I r ?_⟩
  obtain ⟨A, α, ρ, d, ρ', sr, rp, e, q⟩ := q
  cases rp with
  | nil => cases e
  | cons r1 r2 =>
    obtain ⟨ρ1, e1, e2⟩ := bind_some e
    refine ⟨_, _, rfl, A, α, ρ, _, ρ1, sr, r1, e1, fun σ1 s1 k1 l1 => ⟨A, α, ρ1, _, ρ', s1, r2, e2, fun σ2 s2 k2 l2 => q σ2 s2 (fun j hj => (k2 j hj).trans (k1 j hj)) (l2.trans l1)⟩⟩
theorem gsLen : ∀ {gs : List D → Rho → Option Rho} {n : Nat}, (∀ ds ρ ρ', gs ds ρ = some ρ' → ds.length = n) → ∀ {g : D → Rho → Option Rho} ds ρ ρ', gC g gs ds ρ = some ρ' → ds.length = n + 1
  | gs, n, h, g, [], _, _, e => by cases e
  | gs, n, h, g, d :: ds, ρ, ρ', e => by
    obtain ⟨ρ1, e1, e2⟩ := bind_some e
    rw [List.length_cons, h ds ρ1 ρ' e2]
theorem gsLen0 : ∀ ds ρ ρ', gN ds ρ = some ρ' → ds.length = 0
  | [], _, _, _ => rfl
  | _ :: _, _, _, e => by cases e
/-- hl by gsLen (gsLen gsLen0), one gsLen a target -/
theorem qg_tup {k n : Nat} (hc : X.calm = true) (h : QGs X C vs es gs) (hl : ∀ ds ρ ρ', gs ds ρ = some ρ' → ds.length = n)
    (hn : (assignEach es X.env).length = n := by rfl) (hst : (assignEach es X.env).findIdx? (·.1) = none := by rfl) : QG X C vs (.Tuple es k pos) (gT gs) := by
  refine ⟨fun pins s σ H v u Q I r q => (pg_tup hc h hn hst).run pins s σ H v u Q I r ?_⟩
  obtain ⟨A, α, ρ, d, ρ', sr, rp, e, q⟩ := q
  cases d <;> first | cases e | skip
  obtain ⟨a, ws, rfl, l, p⟩ := rp.tupI
  exact ⟨a, ws, rfl, l, by rw [← p.length]; exact hl _ _ _ e, A, α, ρ, _, ρ', sr, p, e, q⟩
end
/-! ### list comprehensions -/
def wipeR (ρ : Rho) : List Nat → Rho
  | [] => ρ
  | v :: vs => (wipeR ρ vs).set v .no
def cleanR (ρ : Rho) (vs : List Nat) : Bool := vs.all fun i => notOwn ρ[i]?
section
variable {K : PySem.W.Frag} {C : Ctx} {A : Addr → Prop} {α : Nat → Option Addr} {ρ : Rho} {σ : L2.St} {H H' : Hp}
theorem SR.setN (s : SR K C A α ρ σ H) {i : Nat} {x : Option V} (n : α i = none) : SR K C A α (ρ.set i .no) (σ.set i x) H := by
  refine ⟨by rw [List.length_set, List.length_set, s.len], s.inj, fun j h => s.out j (by rw [List.length_set] at h; exact h), fun j x e => ?_, s.dom, s.na, s.tabs⟩
  by_cases hj : i = j
  · subst hj
    by_cases hi : i < ρ.length
    · rw [List.getElem?_set_self hi] at e
      cases e
      exact n
    · rw [List.getElem?_eq_none (by rw [List.length_set]; omega)] at e
      cases e
  · rw [List.getElem?_set_ne hj] at e
    rw [List.getElem?_set_ne hj]
    exact s.sl j x e
theorem SR.wipe (s : SR K C A α ρ σ H) : ∀ {vs : List Nat}, cleanR ρ vs = true → SR K C A α (wipeR ρ vs) (L2.wipe σ vs) H
  | [], _ => s
  | v :: vs, h => by
    unfold cleanR at h
    rw [List.all_cons, Bool.and_eq_true] at h
    unfold wipeR L2.wipe
    exact (SR.wipe s (vs := vs) h.2).setN (s.notOwn h.1)
/-- a new object is put among what is not to be touched -/
theorem SR.addA {Dn : Addr} {o : HO} (s : SR K C A α ρ σ H) (n : H Dn = none) (g : Gro C H H') (h : H' Dn = some o) (nt : NT o) : SR K C (fun a => A a ∨ a = Dn) α ρ σ H' ∧ Mv (Fb A α) (Fb (fun a => A a ∨ a = Dn) α) H H' := by
  have m : Mv (Fb A α) (Fb (fun a => A a ∨ a = Dn) α) H H' := ⟨g.kp.to, fun b o e _ nf z => by
    rcases z with (z | z) | z
    · exact nf (.inl z)
    · rw [z, n] at e; cases e
    · exact nf (.inr z)⟩
  refine ⟨⟨s.len, s.inj, s.out, fun i x e => ?_, fun a z => ?_, fun i a e z => ?_, g.tb s.tabs⟩, m⟩
  · have q := s.sl i x e
    cases x with
    | no => exact q
    | v d => obtain ⟨e1, v, e2, r⟩ := q; exact ⟨e1, v, e2, r.mv m⟩
    | o ds => obtain ⟨a, vs, e1, e2, e3, r⟩ := q; exact ⟨a, vs, e1, e2, g.kp.any e3 (NT.lst _), r.mv m⟩
    | w es => obtain ⟨a, vs, e1, e2, e3, e4, r⟩ := q; exact ⟨a, vs, e1, e2, g.kp.any e3 (fun _ z => nomatch z), e4, r.mv m⟩
  · rcases z with z | rfl
    · obtain ⟨o, e, t⟩ := s.dom a z
      exact ⟨o, g.kp.any e t, t⟩
    · exact ⟨o, h, nt⟩
  · rcases z with z | rfl
    · exact s.na i a e z
    · obtain ⟨_, o, e3, _⟩ := s.own e
      rw [n] at e3; cases e3
/-- a list that nobody sees is written -/
theorem tabs_upd {T : List (Addr × Str)} {a : Addr} {xs ys : List V} (t : LamX.Tabs T H) (h : H a = some (.lst xs)) : LamX.Tabs T (upd H a (.lst ys)) := fun p hp => by
  obtain ⟨ps, e1, e2, e3⟩ := t p hp
  have k : ∀ b o, H b = some o → (∀ zs, o ≠ .lst zs) → upd H a (.lst ys) b = some o := fun b o e n => by
    rw [upd_ne (fun z => by rw [z, h] at e; exact n xs (Option.some.inj e).symm)]
    exact e
  refine ⟨ps, k _ _ e1 (fun _ z => nomatch z), e2, fun pos cv hc => ?_⟩
  obtain ⟨c, q1, q2⟩ := e3 pos cv hc
  exact ⟨c, q1, k _ _ q2 (fun _ z => nomatch z)⟩
theorem gro_upd {a : Addr} {xs ys : List V} (g : Gro C H H') (n : H a = none) (h : H' a = some (.lst xs)) : Gro C H (upd H' a (.lst ys)) :=
  ⟨fun b o e t => by rw [upd_ne (ne_of_none e n)]; exact g.kp b o e t, fun t => tabs_upd (g.tb t) h, fun b e => by
    by_cases hb : b = a
    · rw [hb]; exact n
    · rw [upd_ne hb] at e
      exact g.nn b e⟩
theorem mv_upd {F : Addr → Prop} {a : Addr} {xs ys : List V} (h : H a = some (.lst xs)) (f : F a) : Mv F F H (upd H a (.lst ys)) :=
  ⟨fun b o e t => by
    have nb : b ≠ a := fun z => by
      rcases t with ⟨t, _⟩ | t
      · exact t (by rw [z]; exact f)
      · rw [z, h] at e
        cases e
        exact t
    rw [upd_ne nb]
    exact e, fun _ _ _ _ n => n⟩
end
theorem wipe_ext : ∀ {vs : List Nat} {σ τ : L2.St}, σ.length = τ.length → (∀ j, j ∉ vs → σ[j]? = τ[j]?) → L2.wipe σ vs = L2.wipe τ vs := fun {vs σ τ} hl h => by
  apply List.ext_getElem?
  intro j
  by_cases hj : j ∈ vs
  · have key : ∀ (σ : L2.St) (vs : List Nat), j ∈ vs → (L2.wipe σ vs)[j]? = if j < σ.length then some none else none := fun σ vs => by
      induction vs with
      | nil => intro h; cases h
      | cons v vs ih =>
        intro hm
        unfold L2.wipe
        by_cases e : v = j
        · subst e
          by_cases hl : v < (L2.wipe σ vs).length
          · rw [List.getElem?_set_self hl, if_pos (by rw [wipe_length] at hl; exact hl)]
          · rw [List.getElem?_eq_none (by rw [List.length_set]; omega), if_neg (by rw [wipe_length] at hl; exact hl)]
        · rw [List.getElem?_set_ne e]
          exact ih (by rcases List.mem_cons.mp hm with z | z; exact absurd z.symm e; exact z)
    rw [key σ vs hj, key τ vs hj, hl]
  · rw [wipe_out hj, wipe_out hj]
    exact h j hj
def compQ (g : D → Rho → Option Rho) (t : Rho → Option Bool) (f : Rho → Option D) (ρ : Rho) : List D → Option (List D)
  | [] => some []
  | x :: xs => (g x ρ).bind fun ρ1 => (t ρ1).bind fun b => if b then (f ρ1).bind fun y => (compQ g t f ρ xs).map fun ys => y :: ys else compQ g t f ρ xs
def qLc (vs : List Nat) (fi : Rho → Option (List D)) (g : D → Rho → Option Rho) (t : Rho → Option Bool) (f : Rho → Option D) : Rho → Option (List D) := fun ρ =>
  if cleanR ρ vs then (fi ρ).bind fun xs => if decide (xs.length ≤ 16777216) then compQ g t f (wipeR ρ vs) xs else none else none
theorem drop_at {α : Type} {xs : List α} {i : Nat} {x : α} (h : xs[i]? = some x) : xs.drop i = x :: xs.drop (i + 1) := by
  obtain ⟨h1, h2⟩ := List.getElem?_eq_some_iff.mp h
  rw [List.drop_eq_getElem_cons h1, h2]
theorem if_bind {α : Type} {c : Bool} {o : Option α} {b : α} (h : (if c then o else none) = some b) : c = true ∧ o = some b := by
  cases c with
  | true => exact ⟨rfl, h⟩
  | false => cases h
section
variable {K : PySem.W.Frag} {C : Ctx} {vs : List Nat} {fi : Rho → Option (List D)} {g : D → Rho → Option Rho} {t : Rho → Option Bool} {f : Rho → Option D}
theorem lcQ {σ : L2.St} {H : Hp} {Q : VK} (h : rdF K C (qLc vs fi g t f) σ H Q) : tLc (rdI K C fi) (rdG K C vs g) (rdT K C t) (rdQ K C f) vs σ H Q := by
  obtain ⟨A, α, ρ, ds, sr, e, q⟩ := h
  obtain ⟨hcl, e1⟩ := if_bind e
  obtain ⟨xs, e2, e3⟩ := bind_some e1
  obtain ⟨hln, e4⟩ := if_bind e3
  have hln := of_decide_eq_true hln
  refine ⟨A, α, ρ, xs, sr, e2, fun J H1 g1 itr Dn hn => ?_⟩
  refine ⟨fun i m H2 => m = xs.length - i ∧ i ≤ xs.length ∧ Gro C H1 H2 ∧ ∃ acc ws r, H2 Dn = some (.lst ws) ∧ RepL K C (Fb (fun a => A a ∨ a = Dn) α) H2 acc ws ∧ compQ g t f (wipeR ρ vs) (xs.drop i) = some r ∧ ds = acc ++ r ∧ acc.length ≤ i,
    ⟨xs.length, by omega, Nat.zero_le _, Gro.new hn, [], [], ds, upd_same, .nil, by rw [List.drop_zero]; exact e4, rfl, Nat.le_refl _⟩, fun i m H2 hW => ?_⟩
  obtain ⟨rfl, hi, g2, acc, ws, r, hD, hR, hc, hds, hal⟩ := hW
  have s1 := sr.grow g1
  obtain ⟨s2, m2⟩ := s1.addA hn g2 hD (NT.lst _)
  have s3 := s2.wipe hcl
  obtain ⟨go, stop⟩ := itr _ _ m2
  by_cases hlt : i < xs.length
  · have ex : xs[i]? = some xs[i] := List.getElem?_eq_getElem hlt
    obtain ⟨hgo, hy⟩ := go i _ ex
    rw [drop_at ex] at hc
    obtain ⟨ρ1, c1, c2⟩ := bind_some hc
    obtain ⟨b, c3, c4⟩ := bind_some c2
    refine .inr ⟨hgo, fun H' => ∃ m', m' < xs.length - i ∧ (m' = xs.length - (i + 1) ∧ i + 1 ≤ xs.length ∧ Gro C H1 H' ∧ ∃ acc ws r, H' Dn = some (.lst ws) ∧ RepL K C (Fb (fun a => A a ∨ a = Dn) α) H' acc ws ∧ compQ g t f (wipeR ρ vs) (xs.drop (i + 1)) = some r ∧ ds = acc ++ r ∧ acc.length ≤ i + 1),
      fun H' hN => hN, fun v H3 y => ?_⟩
    obtain ⟨g3, rx⟩ := hy v H3 y
    refine ⟨_, α, wipeR ρ vs, _, ρ1, s3.grow g3, rx, c1, fun σ' s4 k4 l4 => ⟨?_, _, α, ρ1, b, s4, c3, fun H4 g4 => ?_⟩⟩
    · refine wipe_ext (by rw [l4, wipe_length]) fun j hj => ?_
      rw [k4 j hj, wipe_out hj]
    · cases b with
      | true =>
        rw [if_pos rfl] at c4
        obtain ⟨y1, c5, c6⟩ := bind_some c4
        obtain ⟨ys, c7, rfl⟩ := map_some c6
        refine (if_pos rfl).mpr ⟨_, α, ρ1, y1, s4.grow g4, c5, fun w H5 g5 r5 => ?_⟩
        have hD5 := (g3.trans (g4.trans g5)).kp.any hD (NT.lst _)
        have hR5 := hR.mv (g3.trans (g4.trans g5)).mv
        have mu : Mv (Fb (fun a => A a ∨ a = Dn) α) (Fb (fun a => A a ∨ a = Dn) α) H5 (upd H5 Dn (.lst (ws ++ [w]))) := mv_upd hD5 (.inl (.inr rfl))
        refine ⟨ws, hD5, ?_, xs.length - (i + 1), by omega, rfl, hlt, gro_upd (g2.trans (g3.trans (g4.trans g5))) hn hD5, acc ++ [y1], ws ++ [w], ys, upd_same, (hR5.append (.cons r5 .nil)).mv mu, c7, ?_, ?_⟩
        · rw [← hR.length, ← sl16]
          omega
        · rw [hds, List.append_assoc]
          rfl
        · rw [List.length_append]
          simp only [List.length_cons, List.length_nil]
          omega
      | false =>
        rw [if_neg Bool.false_ne_true] at c4
        refine (if_neg Bool.false_ne_true).mpr ⟨xs.length - (i + 1), by omega, rfl, hlt, g2.trans (g3.trans g4), acc, ws, r, (g3.trans g4).kp.any hD (NT.lst _), hR.mv (g3.trans g4).mv, c4, hds, by omega⟩
  · have hd : xs.drop i = [] := List.drop_eq_nil_of_le (by omega)
    rw [hd] at hc
    cases hc
    rw [List.append_nil] at hds
    subst hds
    exact .inl ⟨stop i (by omega), q Dn ws H2 (g1.trans g2) (g1.nn _ hn) hD (hR.mv (Mv.weak fun b z => z.elim (fun z => z.elim (fun z => .inl (.inl z)) .inr) fun z => .inl (.inr z)))⟩
end
structure QTs (X : Cx) (C : Ctx) (ifs : List Expr) (t : Rho → Option Bool) : Prop where
  pt : PTs X ifs (rdT X.K C t)
def tT : Rho → Option Bool := fun _ => some true
section
variable {X : Cx} {C : Ctx}
theorem qts_nil : QTs X C [] tT := ⟨⟨fun pins s σ H Q I h => pts_nil.run pins s σ H Q I (by
  obtain ⟨A, α, ρ, b, sr, e, q⟩ := h
  cases e
  exact q H Gro.refl)⟩⟩
theorem qts_one {c : Expr} {t : Rho → Option Bool} (h : QT X C c t) : QTs X C [c] t := ⟨pts_one h⟩
variable {vs : List Nat} {fi : Rho → Option (List D)} {g : D → Rho → Option Rho} {t : Rho → Option Bool} {f : Rho → Option D}
theorem fe_lc {elt tg iter : Expr} {ifs : List Expr} {scope : Scope} (own : List (Str × Nat)) {pos : Pos} (hc : X.calm = true) (hN : X.N.Nodup) (hi : QI X C tg iter fi) (ok : BlkOk X.N X.env.scope scope own)
    (hg : ∀ (s : Shared) (H : Hp) (Ca : Addr) (cl : List (Str × Addr)) (fp : List Addr), QG (X.blk s H scope (compEnvC scope cl Ca X.env) fp) C (own.map (·.2)) tg g)
    (ht : ∀ (s : Shared) (H : Hp) (Ca : Addr) (cl : List (Str × Addr)) (fp : List Addr), QTs (X.blk s H scope (compEnvC scope cl Ca X.env) fp) C ifs t)
    (he : ∀ (s : Shared) (H : Hp) (Ca : Addr) (cl : List (Str × Addr)) (fp : List Addr), QE (X.blk s H scope (compEnvC scope cl Ca X.env) fp) C elt f) (hs : ∀ x, foldedSetIterable iter X.env x = pure x := by intro _; rfl) :
    FE X C (.ListComp elt [⟨tg, iter, ifs, 0⟩] scope pos) (qLc (own.map (·.2)) fi g t f) :=
  wkE (pe_lc hc hN hi ok hg (fun s H Ca cl fp => (ht s H Ca cl fp).pt) he hs) fun σ H Q h => lcQ h
end
end VL
end
section
set_option Elab.async false
set_option linter.all false
set_option maxRecDepth 100000
set_option maxHeartbeats 2000000
/-! VL5: steps of the state, statements, what a def promises, calls. Slot 0, once owned, stays so (a def's list that it changes for its caller). -/
namespace VL
open PySem PySem.Spec L2
open PyProof.Rows hiding St
/-! ### steps -/
def Own (α : Nat → Option Addr) : Addr → Prop := fun a => ∃ i, α i = some a
structure Stp (C : Ctx) (α : Nat → Option Addr) (H : Hp) (α' : Nat → Option Addr) (H' : Hp) : Prop where
  kp : Kp (Own α) H H'
  tb : LamX.Tabs C.T H → LamX.Tabs C.T H'
  nn : ∀ b, H' b = none → H b = none
  new : ∀ i a, α' i = some a → Own α a ∨ H a = none
  z : ∀ a, α 0 = some a → α' 0 = some a
section
variable {K : PySem.W.Frag} {C : Ctx} {A : Addr → Prop} {α α' α2 : Nat → Option Addr} {ρ ρ' : Rho} {σ σ' : L2.St} {H H' H2 : Hp} {F : Addr → Prop}
theorem Stp.of_gro (g : Gro C H H') : Stp C α H α H' := ⟨g.kp.to, g.tb, g.nn, fun i a h => .inl ⟨i, h⟩, fun a h => h⟩
theorem Stp.refl : Stp C α H α H := Stp.of_gro Gro.refl
theorem Stp.trans (s : Stp C α H α' H') (t : Stp C α' H' α2 H2) : Stp C α H α2 H2 where
  kp := fun b o e n => by
    have e1 := s.kp b o e n
    refine t.kp b o e1 ?_
    rcases n with ⟨n, nt⟩ | n
    · refine .inl ⟨fun ⟨i, z⟩ => ?_, nt⟩
      rcases s.new i b z with z | z
      · exact n z
      · rw [e] at z; cases z
    · exact .inr n
  tb := fun h => t.tb (s.tb h)
  nn := fun b h => s.nn b (t.nn b h)
  new := fun i a h => by
    rcases t.new i a h with ⟨j, z⟩ | z
    · exact s.new j a z
    · exact .inr (s.nn a z)
  z := fun a h => t.z a (s.z a h)
theorem Stp.mv (s : Stp C α H α' H') : Mv (Fb A α) (Fb A α') H H' where
  kp := fun b o e n => s.kp b o e (n.elim (fun n => .inl ⟨fun z => n.1 (.inr z), n.2⟩) .inr)
  nf := fun b o e nt n z => by
    rcases z with z | ⟨i, z⟩
    · exact n (.inl z)
    · rcases s.new i b z with z | z
      · exact n (.inr z)
      · rw [e] at z; cases z
/-! ### what is known of an exception -/
def XR (K : PySem.W.Frag) (C : Ctx) (F : Addr → Prop) (H : Hp) (c : Nat) (p : D) (o : Option Addr) : Prop := match C.fld c with
  | none => p = .non ∧ o = none
  | some f => ∃ dd v, o = some dd ∧ ¬ F dd ∧ H dd = some (.xd [(f, v)]) ∧ Rep K C F H p v
/-! ### results -/
inductive Res (β : Type) where
  | ok (d : β) (ρ : Rho)
  | ex (c : Nat) (p : D) (ρ : Rho)
  | bad
inductive SRes where
  | nx (ρ : Rho)
  | rt (d : D) (ρ : Rho)
  | bk (ρ : Rho)
  | ct (ρ : Rho)
  | ex (c : Nat) (p : D) (ρ : Rho)
  | bad
inductive FRes where
  | ok (d : D)
  | ex (c : Nat) (p : D)
  | bad
def PostV (K : PySem.W.Frag) (C : Ctx) (W : WX) (A : Addr → Prop) (α : Nat → Option Addr) (σ : L2.St) (H : Hp) (Q : VK) : Res D → Prop
  | .ok d ρ' => ∀ α' v H', SR K C A α' ρ' σ H' → Stp C α H α' H' → Rep K C (Fb A α') H' d v → Q v H'
  | .ex c p ρ' => ∀ α' o H', SR K C A α' ρ' σ H' → Stp C α H α' H' → XR K C (Fb A α') H' c p o → W (C.cls c) o σ H'
  | .bad => False
def PostA (K : PySem.W.Frag) (C : Ctx) (W : WX) (A : Addr → Prop) (α : Nat → Option Addr) (σ : L2.St) (H : Hp) (Q : List V → Hp → Prop) : Res (List D) → Prop
  | .ok d ρ' => ∀ α' v H', SR K C A α' ρ' σ H' → Stp C α H α' H' → RepL K C (Fb A α') H' d v → Q v H'
  | .ex c p ρ' => ∀ α' o H', SR K C A α' ρ' σ H' → Stp C α H α' H' → XR K C (Fb A α') H' c p o → W (C.cls c) o σ H'
  | .bad => False
/-- a new list -/
def PostF (K : PySem.W.Frag) (C : Ctx) (W : WX) (A : Addr → Prop) (α : Nat → Option Addr) (σ : L2.St) (H : Hp) (Q : VK) : Res (List D) → Prop
  | .ok d ρ' => ∀ α' a v H', SR K C (Ad A a) α' ρ' σ H' → Stp C α H α' H' → H a = none → H' a = some (.lst v) → RepL K C (Fb (Ad A a) α') H' d v → Q (.ref a) H'
  | .ex c p ρ' => ∀ α' o H', SR K C A α' ρ' σ H' → Stp C α H α' H' → XR K C (Fb A α') H' c p o → W (C.cls c) o σ H'
  | .bad => False
def PostS (K : PySem.W.Frag) (C : Ctx) (W : WX) (A : Addr → Prop) (α : Nat → Option Addr) (H : Hp) (Dn : Ends) : SRes → Prop
  | .nx ρ' => ∀ α' σ' H', SR K C A α' ρ' σ' H' → Stp C α H α' H' → Dn.nx σ' H'
  | .bk ρ' => ∀ α' σ' H', SR K C A α' ρ' σ' H' → Stp C α H α' H' → Dn.bk σ' H'
  | .ct ρ' => ∀ α' σ' H', SR K C A α' ρ' σ' H' → Stp C α H α' H' → Dn.ct σ' H'
  | .rt d ρ' => ∀ α' σ' v H', SR K C A α' ρ' σ' H' → Stp C α H α' H' → Rep K C (Fb A α') H' d v → Dn.rt v H'
  | .ex c p ρ' => ∀ α' σ' o H', SR K C A α' ρ' σ' H' → Stp C α H α' H' → XR K C (Fb A α') H' c p o → W (C.cls c) o σ' H'
  | .bad => False
def rdV (K : PySem.W.Frag) (C : Ctx) (W : WX) (m : Rho → Res D) : TE := fun σ H Q => ∃ A α ρ, SR K C A α ρ σ H ∧ PostV K C W A α σ H Q (m ρ)
def rdVA (K : PySem.W.Frag) (C : Ctx) (W : WX) (m : Rho → Res (List D)) : TA := fun σ H Q => ∃ A α ρ, SR K C A α ρ σ H ∧ PostA K C W A α σ H Q (m ρ)
def rdVF (K : PySem.W.Frag) (C : Ctx) (W : WX) (m : Rho → Res (List D)) : TE := fun σ H Q => ∃ A α ρ, SR K C A α ρ σ H ∧ PostF K C W A α σ H Q (m ρ)
def rdS (K : PySem.W.Frag) (C : Ctx) (W : WX) (m : Rho → SRes) : TS := fun Dn σ H => ∃ A α ρ, SR K C A α ρ σ H ∧ PostS K C W A α H Dn (m ρ)
theorem PostV.step {W : WX} {Q : VK} (s : Stp C α H α' H') : ∀ {r : Res D}, PostV K C W A α σ H Q r → PostV K C W A α' σ H' Q r
  | .ok _ _, h => fun β v H2 sr t r => h β v H2 sr (s.trans t) r
  | .ex _ _ _, h => fun β o H2 sr t r => h β o H2 sr (s.trans t) r
  | .bad, h => h
theorem PostA.step {W : WX} {Q : List V → Hp → Prop} (s : Stp C α H α' H') : ∀ {r : Res (List D)}, PostA K C W A α σ H Q r → PostA K C W A α' σ H' Q r
  | .ok _ _, h => fun β v H2 sr t r => h β v H2 sr (s.trans t) r
  | .ex _ _ _, h => fun β o H2 sr t r => h β o H2 sr (s.trans t) r
  | .bad, h => h
theorem PostF.step {W : WX} {Q : VK} (s : Stp C α H α' H') : ∀ {r : Res (List D)}, PostF K C W A α σ H Q r → PostF K C W A α' σ H' Q r
  | .ok _ _, h => fun β a v H2 sr t n l r => h β a v H2 sr (s.trans t) (s.nn _ n) l r
  | .ex _ _ _, h => fun β o H2 sr t r => h β o H2 sr (s.trans t) r
  | .bad, h => h
theorem PostS.step {W : WX} {Dn : Ends} (s : Stp C α H α' H') : ∀ {r : SRes}, PostS K C W A α H Dn r → PostS K C W A α' H' Dn r
  | .nx _, h => fun β v H2 sr t => h β v H2 sr (s.trans t)
  | .bk _, h => fun β v H2 sr t => h β v H2 sr (s.trans t)
  | .ct _, h => fun β v H2 sr t => h β v H2 sr (s.trans t)
  | .rt _ _, h => fun β v w H2 sr t r => h β v w H2 sr (s.trans t) r
  | .ex _ _ _, h => fun β o w H2 sr t r => h β o w H2 sr (s.trans t) r
  | .bad, h => h
end
abbrev VE (X : Cx) (C : Ctx) (W : WX) (e : Expr) (m : Rho → Res D) : Prop := PE X e (rdV X.K C W m)
abbrev VF (X : Cx) (C : Ctx) (W : WX) (e : Expr) (m : Rho → Res (List D)) : Prop := PE X e (rdVF X.K C W m)
abbrev VA (X : Cx) (C : Ctx) (W : WX) (es : List Expr) (m : Rho → Res (List D)) : Prop := PA X es (rdVA X.K C W m)
abbrev QS (X : Cx) (C : Ctx) (W : WX) (st : Stmt) (m : Rho → SRes) : Prop := PS X st (rdS X.K C W m)
abbrev QSs (X : Cx) (C : Ctx) (W : WX) (sts : List Stmt) (m : Rho → SRes) : Prop := PSs X sts (rdS X.K C W m)
/-! ### blocks -/
def sN : Rho → SRes := fun ρ => .nx ρ
def sC (f g : Rho → SRes) : Rho → SRes := fun ρ => match f ρ with
  | .nx ρ' => g ρ'
  | r => r
section
variable {X : Cx} {C : Ctx} {W : WX} {st : Stmt} {rest : List Stmt} {f g : Rho → SRes} {pos : Pos} {e : Expr}
theorem qss_nil : QSs X C W [] sN := wkSs pss_nil fun Dn σ H ⟨A, α, ρ, sr, q⟩ => q α σ H sr Stp.refl
theorem qss_cons (h1 : QS X C W st f) (h2 : QSs X C W rest g) : QSs X C W (st :: rest) (sC f g) :=
  wkSs (pss_cons h1 h2) fun Dn σ H ⟨A, α, ρ, sr, q⟩ => by
    refine ⟨A, α, ρ, sr, ?_⟩
    unfold sC at q
    cases hf : f ρ with
    | nx ρ' =>
      rw [hf] at q
      exact fun α' σ' H' sr' st' => ⟨A, α', ρ', sr', q.step st'⟩
    | _ =>
      rw [hf] at q
      exact q
theorem qss_one (h1 : QS X C W st f) : QSs X C W [st] f := pss_one h1
theorem qs_pass : QS X C W (.Pass pos) sN := wkS ps_pass fun Dn σ H ⟨A, α, ρ, sr, q⟩ => q α σ H sr Stp.refl
def sBk : Rho → SRes := fun ρ => .bk ρ
def sCt : Rho → SRes := fun ρ => .ct ρ
theorem qs_break : QS X C W (.Break pos) sBk := wkS ps_break fun Dn σ H ⟨A, α, ρ, sr, q⟩ => q α σ H sr Stp.refl
theorem qs_cont : QS X C W (.Continue pos) sCt := wkS ps_continue fun Dn σ H ⟨A, α, ρ, sr, q⟩ => q α σ H sr Stp.refl
def sIf (t : Rho → Option Bool) (f g : Rho → SRes) : Rho → SRes := fun ρ => match t ρ with
  | some true => f ρ
  | some false => g ρ
  | none => .bad
theorem qs_if {c : Expr} {a b : List Stmt} {t : Rho → Option Bool} (hc : QT X C c t) (ha : QSs X C W a f) (hb : QSs X C W b g) : QS X C W (.If c a b pos) (sIf t f g) :=
  wkS (ps_if hc ha hb) fun Dn σ H ⟨A, α, ρ, sr, q⟩ => by
    unfold sIf at q
    cases ht : t ρ with
    | none => rw [ht] at q; exact q.elim
    | some b =>
      rw [ht] at q
      refine ⟨A, α, ρ, b, sr, ht, fun H1 g1 => ?_⟩
      cases b with
      | true => exact ⟨A, α, ρ, sr.grow g1, q.step (Stp.of_gro g1)⟩
      | false => exact ⟨A, α, ρ, sr.grow g1, q.step (Stp.of_gro g1)⟩
def sRet (f : Rho → Option D) : Rho → SRes := fun ρ => match f ρ with
  | some d => .rt d ρ
  | none => .bad
theorem qs_ret {fa : Rho → Option D} (h : QE X C e fa) : QS X C W (.Return (some e) pos) (sRet fa) :=
  wkS (ps_ret h) fun Dn σ H ⟨A, α, ρ, sr, q⟩ => by
    unfold sRet at q
    cases ht : fa ρ with
    | none => rw [ht] at q; exact q.elim
    | some d =>
      rw [ht] at q
      exact ⟨A, α, ρ, d, sr, ht, fun v H1 g1 r => q α σ v H1 (sr.grow g1) (Stp.of_gro g1) r⟩
def sRetN : Rho → SRes := fun ρ => .rt .non ρ
theorem qs_retN : QS X C W (.Return none pos) sRetN := wkS ps_retN fun Dn σ H ⟨A, α, ρ, sr, q⟩ => q α σ _ H sr Stp.refl .non
/-! ### freezing, moving -/
def frz (i : Nat) (ρ : Rho) : Rho := match ρ[i]? with
  | some (.o ds) => if i = 0 then ρ else ρ.set i (.v (.lst ds))
  | some (.w es) => if i = 0 then ρ else ρ.set i .no
  | _ => ρ
def off (α : Nat → Option Addr) (i : Nat) : Nat → Option Addr := fun j => if j = i then none else α j
theorem off_self {α : Nat → Option Addr} {i : Nat} : off α i i = none := if_pos rfl
theorem off_ne {α : Nat → Option Addr} {i j : Nat} (h : j ≠ i) : off α i j = α j := if_neg h
theorem off_some {α : Nat → Option Addr} {i j : Nat} {a : Addr} (h : off α i j = some a) : α j = some a ∧ j ≠ i := by
  unfold off at h
  split at h
  · cases h
  · exact ⟨h, by assumption⟩
section
variable {K : PySem.W.Frag} {A : Addr → Prop} {α : Nat → Option Addr} {ρ : Rho} {σ : L2.St} {H : Hp}
theorem fb_off {i : Nat} : ∀ b, Fb A (off α i) b → Fb A α b := fun b z => by
  rcases z with z | ⟨j, z⟩
  · exact .inl z
  · exact .inr ⟨j, (off_some z).1⟩
theorem Stp.off {i : Nat} (h : i ≠ 0 ∨ α i = none) : Stp C α H (off α i) H := ⟨Kp.refl, id, fun _ h => h, fun j a h => .inl ⟨j, (off_some h).1⟩, fun a e => by
  rcases h with h | h
  · rw [off_ne (Ne.symm h)]; exact e
  · by_cases z : i = 0
    · rw [z, e] at h; cases h
    · rw [off_ne (Ne.symm z)]; exact e⟩
/-- the slot i gets another content, its own list is let go -/
theorem SR.put (s : SR K C A α ρ σ H) {i : Nat} {x : Sl} {y : Option V} (hx : SlR K C (Fb A (VL.off α i)) H none x (some y)) : SR K C A (VL.off α i) (ρ.set i x) (σ.set i y) H := by
  refine ⟨by rw [List.length_set, List.length_set, s.len], fun j k a h1 h2 => s.inj j k a (off_some h1).1 (off_some h2).1, fun j h => ?_, fun j u e => ?_, s.dom, fun j a h => s.na j a (off_some h).1, s.tabs⟩
  · by_cases hj : j = i
    · rw [hj]; exact off_self
    · rw [off_ne hj]
      exact s.out j (by rw [List.length_set] at h; exact h)
  · by_cases hj : i = j
    · subst hj
      by_cases hi : i < ρ.length
      · rw [List.getElem?_set_self hi] at e
        cases e
        rw [List.getElem?_set_self (by rw [← s.len]; exact hi), off_self]
        exact hx
      · rw [List.getElem?_eq_none (by rw [List.length_set]; omega)] at e
        cases e
    · rw [List.getElem?_set_ne hj] at e
      rw [List.getElem?_set_ne hj, off_ne (Ne.symm hj)]
      have q := s.sl j u e
      cases u with
      | no => exact q
      | v d => obtain ⟨e1, v, e2, r⟩ := q; exact ⟨e1, v, e2, r.mv (Mv.weak fb_off)⟩
      | o ds => obtain ⟨a, vs, e1, e2, e3, r⟩ := q; exact ⟨a, vs, e1, e2, e3, r.mv (Mv.weak fb_off)⟩
      | w es => obtain ⟨a, vs, e1, e2, e3, e4, r⟩ := q; exact ⟨a, vs, e1, e2, e3, e4, r.mv (Mv.weak fb_off)⟩
theorem SR.frz (s : SR K C A α ρ σ H) (i : Nat) : ∃ α', SR K C A α' (frz i ρ) σ H ∧ Stp C α H α' H := by
  unfold VL.frz
  split
  · rename_i ds e
    split
    · exact ⟨α, s, Stp.refl⟩
    · rename_i h0
      obtain ⟨a, vs, e1, e2, e3, r⟩ := s.sl i _ e
      refine ⟨off α i, ?_, Stp.off (.inl h0)⟩
      have hn : ¬ Fb A (off α i) a := fun z => by
        rcases z with z | ⟨j, z⟩
        · exact s.na i a e1 z
        · obtain ⟨z1, z2⟩ := off_some z
          exact z2 (s.inj j i a z1 e1)
      have q := s.put (i := i) (x := .v (.lst ds)) (y := some (.ref a)) ⟨rfl, .ref a, rfl, .lst (.inl ⟨.inl e3, hn⟩) (r.mv (Mv.weak fb_off))⟩
      have e4 : σ.set i (some (.ref a)) = σ := by
        apply List.ext_getElem?
        intro j
        by_cases hj : i = j
        · subst hj
          rw [e2, List.getElem?_set_self (by
            rw [← s.len]
            exact (List.getElem?_eq_some_iff.mp e).1)]
        · rw [List.getElem?_set_ne hj]
      rw [e4] at q
      exact q
  · rename_i dk dv e
    split
    · exact ⟨α, s, Stp.refl⟩
    · rename_i h0
      obtain ⟨a, kvs, e1, e2, e3, e5, r⟩ := s.sl i _ e
      refine ⟨off α i, ?_, Stp.off (.inl h0)⟩
      have q := s.put (i := i) (x := .no) (y := some (.ref a)) rfl
      have e4 : σ.set i (some (.ref a)) = σ := by
        apply List.ext_getElem?
        intro j
        by_cases hj : i = j
        · subst hj
          rw [e2, List.getElem?_set_self (by
            rw [← s.len]
            exact (List.getElem?_eq_some_iff.mp e).1)]
        · rw [List.getElem?_set_ne hj]
      rw [e4] at q
      exact q
  · exact ⟨α, s, Stp.refl⟩
end
/-- ahead of a statement a slot's list is no longer to be changed -/
def sFz (i : Nat) (f : Rho → SRes) : Rho → SRes := fun ρ => f (frz i ρ)
theorem qs_frz (i : Nat) (h : QS X C W st f) : QS X C W st (sFz i f) := wkS h fun Dn σ H ⟨A, α, ρ, sr, q⟩ => by
  obtain ⟨α', s', t⟩ := sr.frz i
  exact ⟨A, α', frz i ρ, s', PostS.step t q⟩
/-! ### names stored -/
def settable (ρ : Rho) (i : Nat) : Bool := decide (i < ρ.length) && (decide (i ≠ 0) || notOwn ρ[i]?)
theorem settable_ok {K : PySem.W.Frag} {A : Addr → Prop} {α : Nat → Option Addr} {ρ : Rho} {σ : L2.St} {H : Hp} (s : SR K C A α ρ σ H) {i : Nat} (h : settable ρ i = true) : i < ρ.length ∧ (i ≠ 0 ∨ α i = none) := by
  unfold settable at h
  simp only [Bool.and_eq_true, Bool.or_eq_true, decide_eq_true_eq] at h
  exact ⟨h.1, h.2.elim .inl fun z => .inr (s.notOwn z)⟩
section
variable {K : PySem.W.Frag} {A : Addr → Prop} {α : Nat → Option Addr} {ρ : Rho} {σ : L2.St} {H H' : Hp}
theorem SR.setD (s : SR K C A α ρ σ H) {i : Nat} {d : D} {v : V} (r : Rep K C (Fb A α) H d v) : SR K C A (off α i) (ρ.set i (.v d)) (σ.set i (some v)) H :=
  s.put ⟨rfl, v, rfl, r.mv (Mv.weak fb_off)⟩
def on (α : Nat → Option Addr) (i : Nat) (a : Addr) : Nat → Option Addr := fun j => if j = i then some a else α j
theorem on_some {α : Nat → Option Addr} {i j : Nat} {a b : Addr} (h : on α i a j = some b) : (j = i ∧ b = a) ∨ (j ≠ i ∧ α j = some b) := by
  unfold on at h
  split at h
  · cases h; exact .inl ⟨by assumption, rfl⟩
  · exact .inr ⟨by assumption, h⟩
/-- a list that is not to be touched is taken into the slot i -/
theorem SR.take {p : Addr} (s : SR K C (Ad A p) α ρ σ H) {i : Nat} {ds : List D} {vs : List V} (hi : i < ρ.length) (nA : ¬ A p) (l : H p = some (.lst vs)) (hp : RepL K C (Fb (Ad A p) α) H ds vs) : SR K C A (on α i p) (ρ.set i (.o ds)) (σ.set i (some (.ref p))) H := by
  have nO : ∀ j, α j ≠ some p := fun j e => s.na j p e (.inr rfl)
  have fw : ∀ b, Fb A (on α i p) b → Fb (Ad A p) α b := fun b z => by
    rcases z with z | ⟨j, z⟩
    · exact .inl (.inl z)
    · rcases on_some z with ⟨_, z⟩ | ⟨_, z⟩
      · exact .inl (.inr z)
      · exact .inr ⟨j, z⟩
  refine ⟨by rw [List.length_set, List.length_set, s.len], fun j k b h1 h2 => ?_, fun j h => ?_, fun j u e => ?_, fun b h => s.dom b (.inl h), fun j b h => ?_, s.tabs⟩
  · rcases on_some h1 with ⟨z1, e1⟩ | ⟨z1, e1⟩ <;> rcases on_some h2 with ⟨z2, e2⟩ | ⟨z2, e2⟩
    · rw [z1, z2]
    · rw [e1] at e2; exact absurd e2 (nO k)
    · rw [e2] at e1; exact absurd e1 (nO j)
    · exact s.inj j k b e1 e2
  · rw [List.length_set] at h
    have hj : j ≠ i := by omega
    show (if j = i then some p else α j) = none
    rw [if_neg hj]
    exact s.out j h
  · by_cases hj : i = j
    · subst hj
      rw [List.getElem?_set_self hi] at e
      cases e
      rw [List.getElem?_set_self (by rw [← s.len]; exact hi)]
      exact ⟨p, vs, if_pos rfl, rfl, l, hp.mv (Mv.weak fw)⟩
    · rw [List.getElem?_set_ne hj] at e
      rw [List.getElem?_set_ne hj, show on α i p j = α j from if_neg (Ne.symm hj)]
      have q := s.sl j u e
      cases u with
      | no => exact q
      | v d => obtain ⟨e1, v, e2, r⟩ := q; exact ⟨e1, v, e2, r.mv (Mv.weak fw)⟩
      | o ds' => obtain ⟨a', vs', e1, e2, e3, r⟩ := q; exact ⟨a', vs', e1, e2, e3, r.mv (Mv.weak fw)⟩
      | w es => obtain ⟨a', vs', e1, e2, e3, e4, r⟩ := q; exact ⟨a', vs', e1, e2, e3, e4, r.mv (Mv.weak fw)⟩
  · rcases on_some h with ⟨_, rfl⟩ | ⟨_, h⟩
    · exact nA
    · exact fun z => s.na j b h (.inl z)
/-- less is not to be touched -/
theorem SR.less {A' : Addr → Prop} (s : SR K C A α ρ σ H) (h : ∀ b, A' b → A b) : SR K C A' α ρ σ H := by
  have fw : ∀ b, Fb A' α b → Fb A α b := fun b z => z.elim (fun z => .inl (h b z)) .inr
  refine ⟨s.len, s.inj, s.out, fun j u e => ?_, fun b z => s.dom b (h b z), fun j b e z => s.na j b e (h b z), s.tabs⟩
  have q := s.sl j u e
  cases u with
  | no => exact q
  | v d => obtain ⟨e1, v, e2, r⟩ := q; exact ⟨e1, v, e2, r.mv (Mv.weak fw)⟩
  | o ds' => obtain ⟨a', vs', e1, e2, e3, r⟩ := q; exact ⟨a', vs', e1, e2, e3, r.mv (Mv.weak fw)⟩
  | w es => obtain ⟨a', vs', e1, e2, e3, e4, r⟩ := q; exact ⟨a', vs', e1, e2, e3, e4, r.mv (Mv.weak fw)⟩
theorem SR.newA {p : Addr} (s : SR K C A α ρ σ H) (n : H p = none) : ¬ A p := fun z => by
  obtain ⟨o, e, _⟩ := s.dom p z
  rw [n] at e; cases e
theorem stp_on {α' : Nat → Option Addr} {i : Nat} {p : Addr} (n : H p = none) (t : Stp C α H α' H') (h : i ≠ 0 ∨ α' i = none) : Stp C α H (on α' i p) H' := ⟨t.kp, t.tb, t.nn, fun j a e => by
  rcases on_some e with ⟨_, rfl⟩ | ⟨_, e⟩
  · exact .inr n
  · exact t.new j a e, fun a e => by
  have e1 := t.z a e
  rcases h with h | h
  · show (if 0 = i then some p else α' 0) = some a
    rw [if_neg (Ne.symm h)]
    exact e1
  · by_cases z : 0 = i
    · rw [← z, e1] at h; cases h
    · show (if 0 = i then some p else α' 0) = some a
      rw [if_neg z]
      exact e1⟩
end
end
end VL
end
section
set_option Elab.async false
set_option linter.all false
set_option maxRecDepth 100000
set_option maxHeartbeats 2000000
/-! VL6: expressions that may change the owned lists or raise; statements. -/
namespace VL
open PySem PySem.Spec L2
open PyProof.Rows hiding St
def bindR {β γ : Type} (r : Res β) (k : β → Rho → Res γ) : Res γ := match r with
  | .ok d ρ => k d ρ
  | .ex c p ρ => .ex c p ρ
  | .bad => .bad
def lift (f : Rho → Option D) : Rho → Res D := fun ρ => match f ρ with
  | some d => .ok d ρ
  | none => .bad
def liftF (f : Rho → Option (List D)) : Rho → Res (List D) := fun ρ => match f ρ with
  | some d => .ok d ρ
  | none => .bad
section
variable {K : PySem.W.Frag} {C : Ctx} {A : Addr → Prop} {α α' : Nat → Option Addr} {ρ ρ' : Rho} {σ : L2.St} {H H' : Hp} {W : WX}
/-- the ways of an exception are the same -/
theorem SR.slot (s : SR K C A α ρ σ H) {i : Nat} {ds : List D} (h : ρ[i]? = some (.o ds)) : ∃ a vs, α i = some a ∧ σ[i]? = some (some (.ref a)) ∧ H a = some (.lst vs) ∧ RepL K C (Fb A α) H ds vs := s.sl i _ h
end
section
variable {X : Cx} {C : Ctx} {W : WX} {e a b c : Expr} {es : List Expr} {pos : Pos} {fa fb f : Rho → Option D} {m ma mb : Rho → Res D} {ms : Rho → Res (List D)} {fs : Rho → Option (List D)}
theorem ve_q (h : QE X C e f) : VE X C W e (lift f) := wkE h fun σ H Q ⟨A, α, ρ, sr, q⟩ => by
  unfold lift at q
  cases hf : f ρ with
  | none => rw [hf] at q; exact q.elim
  | some d =>
    rw [hf] at q
    exact ⟨A, α, ρ, d, sr, hf, fun v H1 g r => q α v H1 (sr.grow g) (Stp.of_gro g) r⟩
theorem own_new {α : Nat → Option Addr} {ρ : Rho} {σ : L2.St} {H : Hp} {A : Addr → Prop} {K : PySem.W.Frag} (sr : SR K C A α ρ σ H) {a : Addr} (n : H a = none) : ¬ Own α a := fun ⟨i, z⟩ => by
  obtain ⟨_, o, e, _⟩ := sr.own z
  rw [n] at e; cases e
theorem vf_f (h : FE X C e fs) : VF X C W e (liftF fs) := wkE h fun σ H Q ⟨A, α, ρ, sr, q⟩ => by
  unfold liftF at q
  cases hf : fs ρ with
  | none => rw [hf] at q; exact q.elim
  | some d =>
    rw [hf] at q
    refine ⟨A, α, ρ, d, sr, hf, fun a vs H1 g n l r => q α a vs H1 (sr.addA n g l (NT.lst _)).1 (Stp.of_gro g) n l (r.mv (Mv.weak fun b z => ?_))⟩
    rcases z with (z | z) | z
    · exact .inl (.inl z)
    · exact .inr z
    · exact .inl (.inr z)
/-- a new list as a value -/
def lstR : Res (List D) → Res D
  | .ok ds ρ => .ok (.lst ds) ρ
  | .ex c p ρ => .ex c p ρ
  | .bad => .bad
theorem ve_f (h : VF X C W e ms) : VE X C W e (fun ρ => lstR (ms ρ)) := wkE h fun σ H Q ⟨A, α, ρ, sr, q⟩ => by
  refine ⟨A, α, ρ, sr, ?_⟩
  have q : PostV X.K C W A α σ H Q (lstR (ms ρ)) := q
  cases hf : ms ρ with
  | bad => rw [hf] at q; exact q.elim
  | ex c p ρ' => rw [hf] at q; exact q
  | ok ds ρ' =>
    rw [hf] at q
    intro α' a v H' sr' st n l r
    have fw : ∀ b, Fb A α' b → Fb (Ad A a) α' b := fun b z => z.elim (fun z => .inl (.inl z)) .inr
    refine q α' _ H' (sr'.less fun b z => .inl z) st (.lst (.inl ⟨.inl l, fun z => ?_⟩) (r.mv (Mv.weak fw)))
    rcases z with z | ⟨j, z⟩
    · exact sr.newA n z
    · exact sr'.na j a z (.inr rfl)
/-! ### a value, or a new list -/
inductive Kv where
  | dd (x : D)
  | ff (xs : List D)
def Kv.sl : Kv → Sl
  | .dd d => .v d
  | .ff ds => .o ds
def Kv.val : Kv → D
  | .dd d => d
  | .ff ds => .lst ds
def PostK (K : PySem.W.Frag) (C : Ctx) (W : WX) (A : Addr → Prop) (α : Nat → Option Addr) (σ : L2.St) (H : Hp) (Q : VK) : Res Kv → Prop
  | .ok (.dd d) ρ' => PostV K C W A α σ H Q (.ok d ρ')
  | .ok (.ff ds) ρ' => PostF K C W A α σ H Q (.ok ds ρ')
  | .ex c p ρ' => PostV K C W A α σ H Q (.ex c p ρ')
  | .bad => False
def rdK (K : PySem.W.Frag) (C : Ctx) (W : WX) (m : Rho → Res Kv) : TE := fun σ H Q => ∃ A α ρ, SR K C A α ρ σ H ∧ PostK K C W A α σ H Q (m ρ)
def kD (m : Rho → Res D) : Rho → Res Kv := fun ρ => bindR (m ρ) fun d ρ => .ok (.dd d) ρ
def kF (m : Rho → Res (List D)) : Rho → Res Kv := fun ρ => bindR (m ρ) fun d ρ => .ok (.ff d) ρ
end
abbrev KE (X : Cx) (C : Ctx) (W : WX) (e : Expr) (m : Rho → Res Kv) : Prop := PE X e (rdK X.K C W m)
section
variable {X : Cx} {C : Ctx} {W : WX} {e a b c : Expr} {es : List Expr} {pos : Pos} {fa fb f : Rho → Option D} {m ma mb : Rho → Res D} {ms : Rho → Res (List D)} {fs : Rho → Option (List D)} {mk mk2 : Rho → Res Kv} {st : Stmt}
theorem ke_v (h : VE X C W e m) : KE X C W e (kD m) := wkE h fun σ H Q ⟨A, α, ρ, sr, q⟩ => by
  refine ⟨A, α, ρ, sr, ?_⟩
  unfold kD at q
  cases hf : m ρ with
  | bad => rw [hf] at q; exact q.elim
  | ex c p ρ' => rw [hf] at q; exact q
  | ok ds ρ' => rw [hf] at q; exact q
theorem ke_f (h : VF X C W e ms) : KE X C W e (kF ms) := wkE h fun σ H Q ⟨A, α, ρ, sr, q⟩ => by
  refine ⟨A, α, ρ, sr, ?_⟩
  unfold kF at q
  cases hf : ms ρ with
  | bad => rw [hf] at q; exact q.elim
  | ex c p ρ' => rw [hf] at q; exact q
  | ok ds ρ' => rw [hf] at q; exact q
/-! ### statements -/
def sSet (i : Nat) (mk : Rho → Res Kv) : Rho → SRes := fun ρ => match mk ρ with
  | .ok k ρ' => if settable ρ' i then .nx (ρ'.set i k.sl) else .bad
  | .ex c p ρ' => .ex c p ρ'
  | .bad => .bad
section
variable {K : PySem.W.Frag} {A : Addr → Prop} {α α' : Nat → Option Addr} {ρ ρ' : Rho} {σ : L2.St} {H H' : Hp} {Dn : Ends}
theorem set_post {i : Nat} (sr : SR K C A α ρ σ H) (q : PostS K C W A α H Dn (sSet i mk ρ)) : PostK K C W A α σ H (fun x H1 => Dn.nx (σ.set i (some x)) H1) (mk ρ) := by
  unfold sSet at q
  cases hf : mk ρ with
  | bad => rw [hf] at q; exact q.elim
  | ex c p ρ' =>
    rw [hf] at q
    exact fun α' o H' s t x => q α' σ o H' s t x
  | ok k ρ' =>
    rw [hf] at q
    have q : PostS K C W A α H Dn (if settable ρ' i = true then SRes.nx (ρ'.set i k.sl) else SRes.bad) := q
    by_cases hs : settable ρ' i = true
    · rw [if_pos hs] at q
      cases k with
      | dd d =>
        intro α' v H' s t r
        obtain ⟨h1, h2⟩ := settable_ok s hs
        exact q (off α' i) _ H' (s.setD r) (t.trans (Stp.off h2))
      | ff ds =>
        intro α' a v H' s t n l r
        obtain ⟨h1, h2⟩ := settable_ok s hs
        exact q (on α' i a) _ H' (s.take h1 (sr.newA n) l r) (stp_on n t h2)
    · rw [if_neg hs] at q
      exact q.elim
theorem postF_rdF {Q : VK} (sr : SR K C A α ρ σ H) (q : PostF K C W A α σ H Q (liftF fs ρ)) : rdF K C fs σ H Q := by
  unfold liftF at q
  cases hf : fs ρ with
  | none => rw [hf] at q; exact q.elim
  | some d =>
    rw [hf] at q
    refine ⟨A, α, ρ, d, sr, hf, fun a vs H1 g n l r => q α a vs H1 (sr.addA n g l (NT.lst _)).1 (Stp.of_gro g) n l (r.mv (Mv.weak fun b z => ?_))⟩
    rcases z with (z | z) | z
    · exact .inl (.inl z)
    · exact .inr z
    · exact .inl (.inr z)
theorem postK_F {Q : VK} {r : Res (List D)} (q : PostK K C W A α σ H Q (bindR r fun d ρ => .ok (.ff d) ρ)) : PostF K C W A α σ H Q r := by
  cases r with
  | ok d ρ => exact q
  | ex c p ρ => exact q
  | bad => exact q
end
theorem qs_set {i : Nat} {x : Str} {pos' : Pos} (hN : X.N.Nodup) (hi : X.N[i]? = some x) (hx : Loc X.env.scope x) (he : KE X C W e mk) (hs : swapsWith e (some (.Name x pos')) pos.line X.env = pure false := by rfl) (hf : X.fn x = true ∨ X.env.scope.names.lookup x = some .local := by first | exact .inl rfl | exact .inr rfl | assumption) :
    QS X C W (.Assign [.Name x pos'] e pos) (sSet i mk) := wkS (ps_set hN hi hx he hs hf) fun Dn σ H ⟨A, α, ρ, sr, q⟩ => ⟨A, α, ρ, sr, set_post sr q⟩
/-- name = [..] on one line -/
theorem qs_setLc {fi : Rho → Option (List D)} {g : D → Rho → Option Rho} {t : Rho → Option Bool} {f : Rho → Option D} {i : Nat} {y : Str} {py : Pos} {elt tg iter : Expr} {ifs : List Expr} {scope : Scope} (own : List (Str × Nat)) {spos : Pos} (hc : X.calm = true) (hN : X.N.Nodup) (hy : X.N[i]? = some y) (hyl : X.env.scope.names.lookup y = some .local)
    (hsw : swapsWith (.ListComp elt [⟨tg, iter, ifs, 0⟩] scope pos) (some (.Name y py)) spos.line X.env = pure true) (hi : QI X C tg iter fi) (ok : BlkOk X.N X.env.scope scope own)
    (hg : ∀ (s : Shared) (H : Hp) (Ca : Addr) (cl : List (Str × Addr)) (fp : List Addr), QG (X.blk s H scope (compEnvC scope cl Ca X.env) fp) C (own.map (·.2)) tg g)
    (ht : ∀ (s : Shared) (H : Hp) (Ca : Addr) (cl : List (Str × Addr)) (fp : List Addr), QTs (X.blk s H scope (compEnvC scope cl Ca X.env) fp) C ifs t)
    (he : ∀ (s : Shared) (H : Hp) (Ca : Addr) (cl : List (Str × Addr)) (fp : List Addr), QE (X.blk s H scope (compEnvC scope cl Ca X.env) fp) C elt f) (hs : ∀ x, foldedSetIterable iter X.env x = pure x := by intro _; rfl) :
    QS X C W (.Assign [.Name y py] (.ListComp elt [⟨tg, iter, ifs, 0⟩] scope pos) spos) (sSet i (kF (liftF (qLc (own.map (·.2)) fi g t f)))) :=
  wkS (ps_setLc hc hN hy hyl hsw hi ok hg (fun s H Ca cl fp => (ht s H Ca cl fp).pt) he hs) fun Dn σ H ⟨A, α, ρ, sr, q⟩ => lcQ (postF_rdF sr (postK_F (set_post sr q)))
def sEx (m : Rho → Res D) : Rho → SRes := fun ρ => match m ρ with
  | .ok _ ρ' => .nx ρ'
  | .ex c p ρ' => .ex c p ρ'
  | .bad => .bad
theorem qs_expr (he : VE X C W e m) (hs : swapsWith e none pos.line X.env = pure false := by rfl) : QS X C W (.Expr e pos) (sEx m) := wkS (ps_expr he hs) fun Dn σ H ⟨A, α, ρ, sr, q⟩ => by
  refine ⟨A, α, ρ, sr, ?_⟩
  unfold sEx at q
  cases hf : m ρ with
  | bad => rw [hf] at q; exact q.elim
  | ex c p ρ' => rw [hf] at q; exact fun α' o H' s t x => q α' σ o H' s t x
  | ok d ρ' => rw [hf] at q; exact fun α' v H' s t r => q α' σ H' s t
def sRetV (m : Rho → Res D) : Rho → SRes := fun ρ => match m ρ with
  | .ok d ρ' => .rt d ρ'
  | .ex c p ρ' => .ex c p ρ'
  | .bad => .bad
theorem qs_retV (he : VE X C W e m) : QS X C W (.Return (some e) pos) (sRetV m) := wkS (ps_ret he) fun Dn σ H ⟨A, α, ρ, sr, q⟩ => by
  refine ⟨A, α, ρ, sr, ?_⟩
  unfold sRetV at q
  cases hf : m ρ with
  | bad => rw [hf] at q; exact q.elim
  | ex c p ρ' => rw [hf] at q; exact fun α' o H' s t x => q α' σ o H' s t x
  | ok d ρ' => rw [hf] at q; exact fun α' v H' s t r => q α' σ v H' s t r
/-- target = value, the target of any form that owns nothing -/
def sAsg (g : D → Rho → Option Rho) (m : Rho → Res D) : Rho → SRes := fun ρ => match m ρ with
  | .ok d ρ' => (match g d ρ' with
    | some ρ2 => .nx ρ2
    | none => .bad)
  | .ex c p ρ' => .ex c p ρ'
  | .bad => .bad
theorem qs_asg {vs : List Nat} {tg : Expr} {g : D → Rho → Option Rho} (he : VE X C W e m) (hg : QG X C vs tg g) (hs : swapsWithSole [tg] e pos.line X.env = pure false := by rfl) (hw : swappedStores [tg] e X.env = pure none := by rfl)
    (h1 : (assignEach [tg] X.env).map (·.2) = [assign tg X.env] := by rfl) : QS X C W (.Assign [tg] e pos) (sAsg g m) := wkS (ps_asg he hg hs hw h1) fun Dn σ H ⟨A, α, ρ, sr, q⟩ => by
  refine ⟨A, α, ρ, sr, ?_⟩
  unfold sAsg at q
  cases hf : m ρ with
  | bad => rw [hf] at q; exact q.elim
  | ex c p ρ' => rw [hf] at q; exact fun α' o H' s t x => q α' σ o H' s t x
  | ok d ρ' =>
    rw [hf] at q
    cases hg2 : g d ρ' with
    | none => simp only [hg2] at q; exact q.elim
    | some ρ2 =>
      simp only [hg2] at q
      exact fun α' v H' s t r => ⟨A, α', ρ', d, ρ2, s, r, hg2, fun σ' s' _ _ => q α' σ' H' s' t⟩
/-- a, b = e1, e2: two plain local names -/
def sPar (i j : Nat) (mk mk2 : Rho → Res Kv) : Rho → SRes := fun ρ => match mk ρ with
  | .ok k ρ1 => (match mk2 ρ1 with
    | .ok k2 ρ2 => if settable ρ2 i && settable ρ2 j then .nx ((ρ2.set j k2.sl).set i k.sl) else .bad
    | .ex c p ρ' => .ex c p ρ'
    | .bad => .bad)
  | .ex c p ρ' => .ex c p ρ'
  | .bad => .bad
section
variable {K : PySem.W.Frag} {A : Addr → Prop} {α α' : Nat → Option Addr} {ρ ρ' : Rho} {σ : L2.St} {H H' : Hp}
theorem Stp.kept {p : Addr} {vs : List V} (s : SR K C (Ad A p) α ρ σ H) (t : Stp C α H α' H') (l : H p = some (.lst vs)) : H' p = some (.lst vs) :=
  t.kp _ _ l (.inl ⟨fun ⟨j, e⟩ => s.na j p e (.inr rfl), NT.lst _⟩)
theorem off_none {α : Nat → Option Addr} {i j : Nat} (h : α i = none) : off α j i = none := by
  unfold off
  split
  · rfl
  · exact h
theorem on_none {α : Nat → Option Addr} {i j : Nat} {a : Addr} (n : i ≠ j) (h : α i = none) : on α j a i = none := by
  unfold on
  rw [if_neg n]
  exact h
end
theorem qs_par {i j : Nat} {x y : Str} {px py pt : Pos} {kt k2 pt2} (hc : X.calm = true) (hN : X.N.Nodup) (hi : X.N[i]? = some x) (hj : X.N[j]? = some y) (hij : i ≠ j)
    (hx : X.env.scope.names.lookup x = some .local) (hy : X.env.scope.names.lookup y = some .local) (ha : KE X C W a mk) (hb : KE X C W b mk2)
    (hw : swappedStores [.Tuple [.Name x px, .Name y py] kt pt] (.Tuple [a, b] k2 pt2) X.env = pure (some [x, y]))
    (hs : swapsWithSole [.Tuple [.Name x px, .Name y py] kt pt] (.Tuple [a, b] k2 pt2) pos.line X.env = pure false := by rfl)
    (h1 : starEach [a, b] X.env = (false, eval a X.env) :: starEach [b] X.env := by rfl) (h2 : starEach [b] X.env = (false, eval b X.env) :: starEach [] X.env := by rfl) :
    QS X C W (.Assign [.Tuple [.Name x px, .Name y py] kt pt] (.Tuple [a, b] k2 pt2) pos) (sPar i j mk mk2) :=
  wkS (ps_par hc hN hi hj hij hx hy (pa_cons ha (pa_cons hb pa_nil h2) h1) hw hs) fun Dn σ H ⟨A, α, ρ, sr, q⟩ => by
    refine ⟨A, α, ρ, sr, ?_⟩
    unfold sPar at q
    have com : ∀ (v w : V), (σ.set i (some v)).set j (some w) = (σ.set j (some w)).set i (some v) := fun v w => List.set_comm _ _ hij
    cases hf : mk ρ with
    | bad => rw [hf] at q; exact q.elim
    | ex c p ρ' => rw [hf] at q; exact fun α' o H' s t x => q α' σ o H' s t x
    | ok k ρ1 =>
      simp only [hf] at q
      cases k with
      | dd d =>
        intro α1 v H1 s1 t1 r1
        refine ⟨A, α1, ρ1, s1, ?_⟩
        cases hf2 : mk2 ρ1 with
        | bad => simp only [hf2] at q; exact q.elim
        | ex c p ρ' => simp only [hf2] at q; exact fun α' o H' s t x => q α' σ o H' s (t1.trans t) x
        | ok k2 ρ2 =>
          simp only [hf2] at q
          by_cases hst : (settable ρ2 i && settable ρ2 j) = true
          · rw [if_pos hst] at q
            rw [Bool.and_eq_true] at hst
            cases k2 with
            | dd d2 =>
              intro α2 w H2 s2 t2 r2
              obtain ⟨a1, a2⟩ := settable_ok s2 hst.1
              obtain ⟨b1, b2⟩ := settable_ok s2 hst.2
              refine ⟨v, w, rfl, ?_⟩
              rw [com]
              refine q (off (off α2 j) i) _ H2 ((s2.setD r2).setD ((r1.mv t2.mv).mv (Mv.weak fb_off))) ((t1.trans t2).trans ((Stp.off b2).trans (Stp.off (a2.elim .inl fun z => .inr (off_none z)))))
            | ff ds2 =>
              intro α2 a w H2 s2 t2 n2 l2 r2
              obtain ⟨a1, a2⟩ := settable_ok s2 hst.1
              obtain ⟨b1, b2⟩ := settable_ok s2 hst.2
              refine ⟨v, _, rfl, ?_⟩
              rw [com]
              have s3 := s2.take b1 (s1.newA n2) l2 r2
              have fw : ∀ b, Fb A (on α2 j a) b → Fb (Ad A a) α2 b := fun b z => by
                rcases z with z | ⟨j', z⟩
                · exact .inl (.inl z)
                · rcases on_some z with ⟨_, z⟩ | ⟨_, z⟩
                  · exact .inl (.inr z)
                  · exact .inr ⟨j', z⟩
              have r1' : Rep X.K C (Fb (Ad A a) α2) H2 d v := r1.mv ⟨fun b o e n => t2.kp b o e (n.elim (fun n => .inl ⟨fun z => n.1 (.inr z), n.2⟩) .inr), fun b o e nt nf z => by
                rcases z with (z | z) | z
                · exact nf (.inl z)
                · rw [z, n2] at e; cases e
                · obtain ⟨i', z⟩ := z
                  rcases t2.new i' b z with z | z
                  · exact nf (.inr z)
                  · rw [e] at z; cases z⟩
              refine q (off (on α2 j a) i) _ H2 (s3.setD (r1'.mv (Mv.weak fw))) ((t1.trans (stp_on n2 t2 b2)).trans (Stp.off (a2.elim .inl fun z => .inr (on_none hij z))))
          · rw [if_neg hst] at q
            exact q.elim
      | ff ds =>
        intro α1 p v H1 s1 t1 n1 l1 r1
        refine ⟨Ad A p, α1, ρ1, s1, ?_⟩
        cases hf2 : mk2 ρ1 with
        | bad => simp only [hf2] at q; exact q.elim
        | ex c e ρ' =>
          simp only [hf2] at q
          intro α' o H' s t x
          refine q α' σ o H' (s.less fun b z => .inl z) (t1.trans t) ?_
          unfold XR at x ⊢
          cases hfl : C.fld c with
          | none => rw [hfl] at x; exact x
          | some f =>
            rw [hfl] at x
            obtain ⟨dd, u, x1, x0, x2, x3⟩ := x
            exact ⟨dd, u, x1, fun z => x0 (z.elim (fun z => .inl (.inl z)) .inr), x2, x3.mv (Mv.weak fun b z => z.elim (fun z => .inl (.inl z)) .inr)⟩
        | ok k2 ρ2 =>
          simp only [hf2] at q
          by_cases hst : (settable ρ2 i && settable ρ2 j) = true
          · rw [if_pos hst] at q
            rw [Bool.and_eq_true] at hst
            cases k2 with
            | dd d2 =>
              intro α2 w H2 s2 t2 r2
              obtain ⟨a1, a2⟩ := settable_ok s2 hst.1
              obtain ⟨b1, b2⟩ := settable_ok s2 hst.2
              refine ⟨_, w, rfl, ?_⟩
              rw [com]
              have s3 : SR X.K C (Ad A p) (off α2 j) (ρ2.set j (.v d2)) (σ.set j (some w)) H2 := s2.setD r2
              refine q (on (off α2 j) i p) _ H2 (s3.take (by rw [List.length_set]; exact a1) (sr.newA n1) (Stp.kept s1 t2 l1) ((r1.mv t2.mv).mv (Mv.weak fb_off))) (stp_on n1 ((t1.trans t2).trans (Stp.off b2)) (a2.elim .inl fun z => .inr (off_none z)))
            | ff ds2 =>
              intro α2 a w H2 s2 t2 n2 l2 r2
              obtain ⟨a1, a2⟩ := settable_ok s2 hst.1
              obtain ⟨b1, b2⟩ := settable_ok s2 hst.2
              refine ⟨_, _, rfl, ?_⟩
              rw [com]
              have s3 := s2.take b1 (s1.newA n2) l2 r2
              have fw : ∀ b, Fb (Ad A p) (on α2 j a) b → Fb (Ad (Ad A p) a) α2 b := fun b z => by
                rcases z with z | ⟨j', z⟩
                · exact .inl (.inl z)
                · rcases on_some z with ⟨_, z⟩ | ⟨_, z⟩
                  · exact .inl (.inr z)
                  · exact .inr ⟨j', z⟩
              have r1' : RepL X.K C (Fb (Ad (Ad A p) a) α2) H2 ds v := r1.mv ⟨fun b o e n => t2.kp b o e (n.elim (fun n => .inl ⟨fun z => n.1 (.inr z), n.2⟩) .inr), fun b o e nt nf z => by
                rcases z with (z | z) | z
                · exact nf (.inl z)
                · rw [z, n2] at e; cases e
                · obtain ⟨i', z⟩ := z
                  rcases t2.new i' b z with z | z
                  · exact nf (.inr z)
                  · rw [e] at z; cases z⟩
              have l1' : H2 p = some (.lst v) := Stp.kept s1 t2 l1
              refine q (on (on α2 j a) i p) _ H2 (s3.take (by rw [List.length_set]; exact a1) (sr.newA n1) l1' (r1'.mv (Mv.weak fw))) (stp_on n1 (t1.trans (stp_on n2 t2 b2)) (a2.elim .inl fun z => .inr (on_none hij z)))
          · rw [if_neg hst] at q
            exact q.elim
end
end VL
end
section
set_option Elab.async false
set_option linter.all false
set_option maxRecDepth 100000
set_option maxHeartbeats 2000000
/-! VL6b: what a def promises where it is known that no repr is under way (the guards): HandS's FnOk and its rules with that known. -/
namespace VL
open PySem PySem.Spec L2
open PyProof.Rows hiding St
structure RoomG (k : Nat) (A : Around) : Prop extends Room k A where
  gd : A.guards = some []
theorem RoomG.mono {j k : Nat} {A : Around} (r : RoomG k A) (h : j ≤ k) : RoomG j A := ⟨r.toRoom.mono h, r.gd⟩
theorem RoomG.deeper {k : Nat} {A : Around} (r : RoomG (k + 1) A) (env : Env) : RoomG k (A.deeper env) := ⟨r.toRoom.deeper env, r.gd⟩
theorem roomG_caller {k : Nat} (h : Room k callerA) : RoomG k callerA := ⟨h, rfl⟩
structure FnOkG (P : Program) (w : World) (K : PySem.W.Frag) (mg : Str → Option Value) (base : Heap) (CX : CXT) (k : Nat) (f : Addr) (fd : FuncData) (ps : List Str) (sp : Sp) : Prop where
  len : ∀ vs H Q E, sp vs H Q E → vs.length = ps.length
  run : ∀ (A : Around) (outer : List Env) (s : Shared) (H : Hp) (args : Args) (us : List Value) (vs : List V) (Q : VK) (E : XK), RoomG k A → Env0 P w K mg base A outer s H → BindsTo s fd args (ps.zip us) → Vals vs us → sp vs H Q E →
    codeAny (model P w) A (.call (.ref f) args) (CR CX outer P w H s Q E) s
theorem FnOkG.mono {P : Program} {w : World} {K : PySem.W.Frag} {mg : Str → Option Value} {base : Heap} {CX : CXT} {j k : Nat} {f : Addr} {fd : FuncData} {ps : List Str} {sp : Sp} (F : FnOkG P w K mg base CX j f fd ps sp) (h : j ≤ k) :
    FnOkG P w K mg base CX k f fd ps sp := ⟨F.len, fun A outer s H args us vs Q E hr => F.run A outer s H args us vs Q E (hr.mono h)⟩
theorem FnOkG.imp {P : Program} {w : World} {K : PySem.W.Frag} {mg : Str → Option Value} {base : Heap} {CX : CXT} {k : Nat} {f : Addr} {fd : FuncData} {ps : List Str} {sp sp' : Sp} (F : FnOkG P w K mg base CX k f fd ps sp)
    (h : ∀ vs H Q E, sp' vs H Q E → sp vs H Q E) : FnOkG P w K mg base CX k f fd ps sp' :=
  ⟨fun vs H Q E q => F.len vs H Q E (h _ _ _ _ q), fun A outer s H args us vs Q E hr he hb hv hs => F.run A outer s H args us vs Q E hr he hb hv (h _ _ _ _ hs)⟩
section
variable {X : Cx} {CX : CXT} {k : Nat} {f : Addr} {fd : FuncData} {ps : List Str} {sp : Sp} {dvs : List V} {ds : List Value} {E : XK} {x : Str} {p pos : Pos} {e : Expr} {es : List Expr} {t : TA}
theorem run_fnG {pins : List (Addr × Obj)} {σ : L2.St} {H : Hp} {s : Shared} {Q : VK} {us : List Value} {vs : List V} (F : FnOkG X.prog X.w X.K X.mg X.base CX k f fd ps sp) (hr : RoomG k X.A) (hb : Binds X.K fd ps ds) (hd : Vals dvs ds) (hx : PassesAt CX X σ E)
    (I : Inv X pins σ H s) (r : Vals vs us) (h : sp (vs ++ dvs) H Q E) : wpAny (model X.prog X.w) X.A (call (.ref f) us) (EP X pins σ Q) X.xe s := by
  have r2 : Vals (vs ++ dvs) (us ++ ds) := r.append hd
  have hl : (us ++ ds).length = ps.length := by rw [← r2.length]; exact F.len _ _ _ _ h
  refine wpAny_call (codeAny_mono (F.run X.A X.stack s H ⟨us, []⟩ (us ++ ds) (vs ++ dvs) Q E hr I.env0 (hb s us I.kIn hl) r2 h) fun r s' hq => ?_)
  cases r with
  | error e => exact hx pins H s e s' I hq
  | ok fl =>
    cases fl with
    | ret u => exact I.after hq
    | next => exact False.elim hq
    | brk => exact False.elim hq
    | cont => exact False.elim hq
theorem pe_callG (F : FnOkG X.prog X.w X.K X.mg X.base CX k f fd ps sp) (hr : RoomG k X.A) (hg : Gl X x) (hm : X.mg x = some (.ref f)) (hk : PySem.W.keepIn X.K (.ref f) = true) (hb : Binds X.K fd ps ds) (hd : Vals dvs ds) (hx : Passes CX X E)
    (ha : PA X (e :: es) t) (hdb : (x == ("__debug__" : Str)) = false := by decide) (he : starEach (e :: es) X.env = (false, eval e X.env) :: starEach es X.env := by rfl) (hpl : (backTo pos (starEach es X.env)).any (·.1) = false := by rfl) :
    PE X (.Call (.Name x p) (e :: es) [] pos) (tCall sp dvs E t) := by
  refine ⟨fun pins s σ H Q I h => ?_⟩
  refine wpAny_Call_Name_kw (ld_glob I hg hm ?_ hdb)
  refine PySem.W.callWith_K (h₀ := X.base) I.ok.mod.kin hk (thn (ha.run pos pins s σ H _ I h) fun us s1 ⟨vs, H1, I1, r, q⟩ => ⟨I1.kIn, ?_⟩) he hpl
  exact run_fnG F hr hb hd (fun pins H s e s' => hx pins σ H s e s') I1 r q
theorem pe_call0G (F : FnOkG X.prog X.w X.K X.mg X.base CX k f fd ps sp) (hr : RoomG k X.A) (hg : Gl X x) (hm : X.mg x = some (.ref f)) (hk : PySem.W.keepIn X.K (.ref f) = true) (hb : Binds X.K fd ps ds) (hd : Vals dvs ds) (hx : Passes CX X E)
    (hdb : (x == ("__debug__" : Str)) = false := by decide) : PE X (.Call (.Name x p) [] [] pos) (tCall sp dvs E tNil) := by
  refine ⟨fun pins s σ H Q I h => ?_⟩
  refine wpAny_Call_Name_kw (ld_glob I hg hm ?_ hdb)
  exact PySem.W.callWith_K0 I.kIn hk (run_fnG (us := []) F hr hb hd (fun pins H s e s' => hx pins σ H s e s') I .nil h)
theorem pe_callSG {E : L2.St → XK} (F : FnOkG X.prog X.w X.K X.mg X.base CX k f fd ps sp) (hr : RoomG k X.A) (hg : Gl X x) (hm : X.mg x = some (.ref f)) (hk : PySem.W.keepIn X.K (.ref f) = true) (hb : Binds X.K fd ps ds) (hd : Vals dvs ds) (hx : ∀ σ, PassesAt CX X σ (E σ))
    (ha : PA X (e :: es) t) (hdb : (x == ("__debug__" : Str)) = false := by decide) (he : starEach (e :: es) X.env = (false, eval e X.env) :: starEach es X.env := by rfl) (hpl : (backTo pos (starEach es X.env)).any (·.1) = false := by rfl) :
    PE X (.Call (.Name x p) (e :: es) [] pos) (tCallSD sp dvs E t) := by
  refine ⟨fun pins s σ H Q I h => ?_⟩
  refine wpAny_Call_Name_kw (ld_glob I hg hm ?_ hdb)
  refine PySem.W.callWith_K (h₀ := X.base) I.ok.mod.kin hk (thn (ha.run pos pins s σ H _ I h) fun us s1 ⟨vs, H1, I1, r, q⟩ => ⟨I1.kIn, ?_⟩) he hpl
  exact run_fnG F hr hb hd (hx σ) I1 r q
end
/-- a def's code object -/
def codeAt (K : PySem.W.Frag) (f : Addr) : Addr := match K.lookup f with
  | some ⟨_, _, .func fd, _⟩ => (match fd.code with
    | .ref c => c
    | _ => 0)
  | _ => 0
theorem codeAt_ref {K : PySem.W.Frag} {cd : Value} {q : Str} (h : PySem.W.codeIn K cd q = true) : ∃ c, cd = .ref c := by
  cases cd with
  | ref c => exact ⟨c, rfl⟩
  | _ => cases h
section
variable {CX : CXT} {P : Program} {w : World} {K : PySem.W.Frag} {mg : Str → Option Value} {base : Heap} {k : Nat} {f : Addr} {x qual : Str} {params : Arguments} {body : List Stmt} {scope : Scope} {dvs : List V} {kws : List (Str × V)} {fd : FuncData} {N ps : List Str} {sp : Sp}
/-- a def by its body -/
theorem funD_okG (F : FunD K x qual params body scope dvs kws f fd) (S : FnScope N ps scope) (len : ∀ vs H Q E, sp vs H Q E → vs.length = ps.length)
    (hbody : ∀ (cdv : Value) (A : Around) (outer : List Env) (s : Shared) (H : Hp) (vs : List V) (Q : VK) (E : XK), cdv = .ref (codeAt K f) → RoomG k (A.deeper (envOfC qual scope s.heap.objs.size f cdv)) → sp vs H Q E →
      ∃ t, PSs (cxOf CX P w K mg base N qual scope f cdv A outer s H E) body t ∧ t { nx := fun _ H' => Q .non H', rt := Q } (L2.start N vs) H) : FnOkG P w K mg base CX (k + 1) f fd ps sp := by
  obtain ⟨oc, od, dV, kV, doc, pm, an, cdv, ct, osl, rfl, lk, hcd, _, _⟩ := F.ex
  refine ⟨len, fun A outer s H args us vs Q E hr e0 hb r hsp => ?_⟩
  have hl := len _ _ _ _ hsp
  have KX : K.In s.heap := e0.mod.kin.keeps fun b o e => (e0.bs b o e).1
  have lim : s.heap.NoLimit := e0.mod.nolimit.keeps fun b o e => (e0.bs b o e).1
  have hkind : ∀ y ∈ ps.zip us, scope.names.lookup y.1 = some .local ∨ (scope.names.lookup y.1 = some .cell ∧ ((cellsFrom (s.heap.objs.size + 1) scope.names []).lookup y.1).isSome = true) := fun ⟨n, v⟩ hy => by
    rcases S.par n (List.of_mem_zip hy).1 with q | q
    · exact .inl q
    · exact .inr ⟨q, PySem.W.cellsFrom_some _ _ _ (.inl q)⟩
  refine codeAny_call_function hr.toRoom.depth (KX _ _ lk) rfl S.co S.gen rfl (PySem.W.codeRec_of KX hcd) (hb _ _ _ _ ?_)
  refine wpAny_newFunctionEnv_cells S.kind hkind fun env he s1 y => ?_
  subst he
  refine ⟨lim.keeps y.toInCall.keep, codeAny_func ?_⟩
  have hcv : cdv = .ref (codeAt K f) := by
    obtain ⟨c, e⟩ := codeAt_ref hcd
    subst e
    unfold codeAt
    rw [lk] <;> rfl
  obtain ⟨t, ht, hq⟩ := hbody cdv A outer s H vs Q E hcv (hr.deeper _) hsp
  have I : Inv (cxOf CX P w K mg base N qual scope f cdv A outer s H E) [] (L2.start N vs) H s1 := inv_start S hr.hd e0 hl r y
  refine wpAny_mono (ht.run [] s1 (L2.start N vs) H _ I hq) (fun fl s' hs => ?_) fun e s' hs => hs
  have fin : ∀ {σ' : L2.St} {H' : Hp} {v : V} {u : Value}, Inv (cxOf CX P w K mg base N qual scope f cdv A outer s H E) [] σ' H' s' → L2.RelV v u → Q v H' → CE outer P w H s Q u s' :=
    fun {σ' H' v u} J rv q => ⟨v, H', J.os, J.bare, J.base, J.hok, rv, q⟩
  cases fl with
  | ret u =>
    obtain ⟨v, σ', H', J, rv, q⟩ := hs
    exact fin J rv q
  | next =>
    obtain ⟨σ', H', J, q⟩ := hs
    exact fin (v := V.non) (u := Value.none) J rfl q
  | brk =>
    obtain ⟨_, _, _, q⟩ := hs
    exact False.elim q
  | cont =>
    obtain ⟨_, _, _, q⟩ := hs
    exact False.elim q
end
end VL
end
section
set_option Elab.async false
set_option linter.all false
set_option maxRecDepth 100000
set_option maxHeartbeats 2000000
/-! VL7: owned lists changed; loops; arguments; calls; what a def promises. -/
namespace VL
open PySem PySem.Spec L2
open PyProof.Rows hiding St
section
variable {K : PySem.W.Frag} {C : Ctx} {A : Addr → Prop} {α α' : Nat → Option Addr} {ρ ρ' : Rho} {σ : L2.St} {H H' : Hp}
/-- the list in slot i gets another content -/
theorem SR.write {i : Nat} {a : Addr} {ds es : List D} {vs ws : List V} (s : SR K C A α ρ σ H) (hi : ρ[i]? = some (.o ds)) (ha : α i = some a) (hl : H a = some (.lst vs)) (hr : RepL K C (Fb A α) H es ws) :
    SR K C A α (ρ.set i (.o es)) σ (upd H a (.lst ws)) ∧ Stp C α H α (upd H a (.lst ws)) := by
  have fa : Fb A α a := .inr ⟨i, ha⟩
  have m : Mv (Fb A α) (Fb A α) H (upd H a (.lst ws)) := mv_upd hl fa
  refine ⟨⟨by rw [List.length_set, s.len], s.inj, fun j h => s.out j (by rw [List.length_set] at h; exact h), fun j x e => ?_, fun b h => ?_, s.na, tabs_upd s.tabs hl⟩, ⟨fun b o e n => ?_, fun t => tabs_upd t hl, fun b e => ?_, fun j b e => .inl ⟨j, e⟩, fun b e => e⟩⟩
  · by_cases hj : i = j
    · subst hj
      rw [List.getElem?_set_self (List.getElem?_eq_some_iff.mp hi).1] at e
      cases e
      obtain ⟨a', vs', e1, e2, e3, _⟩ := s.sl i _ hi
      rw [ha] at e1
      cases e1
      exact ⟨a, ws, ha, e2, upd_same, hr.mv m⟩
    · rw [List.getElem?_set_ne hj] at e
      have q := s.sl j x e
      cases x with
      | no => exact q
      | v d => obtain ⟨e1, v, e2, r⟩ := q; exact ⟨e1, v, e2, r.mv m⟩
      | o ds' =>
        obtain ⟨a', vs', e1, e2, e3, r⟩ := q
        exact ⟨a', vs', e1, e2, by rw [upd_ne (fun z => hj (s.inj i j a ha (by rw [← z]; exact e1)))]; exact e3, r.mv m⟩
      | w es =>
        obtain ⟨a', vs', e1, e2, e3, e4, r⟩ := q
        exact ⟨a', vs', e1, e2, by rw [upd_ne (fun z => hj (s.inj i j a ha (by rw [← z]; exact e1)))]; exact e3, e4, r.mv m⟩
  · by_cases hb : b = a
    · exact absurd h (by rw [hb]; exact s.na i a ha)
    · rw [upd_ne hb]
      exact s.dom b h
  · have nb : b ≠ a := fun z => by
      rcases n with ⟨n, _⟩ | n
      · exact n ⟨i, by rw [z]; exact ha⟩
      · rw [z, hl] at e
        cases e
        exact n
    rw [upd_ne nb]
    exact e
  · by_cases hb : b = a
    · rw [hb, upd_same] at e; cases e
    · rw [upd_ne hb] at e
      exact e
/-- where slot i is an owned list ahead of and behind a step, it is the same object -/
theorem SR.same {i : Nat} {ds ds' : List D} {a a' : Addr} (s : SR K C A α ρ σ H) {A' : Addr → Prop} {ρ' : Rho} (t : SR K C A' α' ρ' σ H') (h : ρ[i]? = some (.o ds)) (h' : ρ'[i]? = some (.o ds')) (ha : α i = some a) (ha' : α' i = some a') : a = a' := by
  obtain ⟨b, _, e1, e2, _⟩ := s.sl i _ h
  obtain ⟨b', _, e1', e2', _⟩ := t.sl i _ h'
  rw [ha] at e1
  rw [ha'] at e1'
  cases e1
  cases e1'
  rw [e2] at e2'
  cases e2'
  rfl
end
def ownAt (ρ : Rho) (i : Nat) : Option (List D) := match ρ[i]? with
  | some (.o ds) => some ds
  | _ => none
theorem ownAt_some {ρ : Rho} {i : Nat} {ds : List D} (h : ownAt ρ i = some ds) : ρ[i]? = some (.o ds) := by
  unfold ownAt at h
  split at h
  · cases h; assumption
  · cases h
section
variable {X : Cx} {C : Ctx} {W : WX} {e a b c : Expr} {es : List Expr} {pos apos cpos p1 : Pos} {fa fb f : Rho → Option D} {m ma mb : Rho → Res D} {ms : Rho → Res (List D)} {fs : Rho → Option (List D)} {mk mk2 : Rho → Res Kv} {st : Stmt}
/-- own.append(e) -/
def sApp (i : Nat) (m : Rho → Res D) : Rho → SRes := fun ρ => match ownAt ρ i with
  | some _ => (match m ρ with
    | .ok d ρ1 => (match ownAt ρ1 i with
      | some ds => if decide (ds.length < 16777216) then .nx (ρ1.set i (.o (ds ++ [d]))) else .bad
      | none => .bad)
    | .ex c p ρ' => .ex c p ρ'
    | .bad => .bad)
  | none => .bad
theorem qs_app {i : Nat} {x : Str} (hN : X.N[i]? = some x) (hv : Vis X.env.scope x) (he : VE X C W e m) (hd : (x == ("__debug__" : Str)) = false := by decide) (hcd : (x == ("__classdict__" : Str)) = false := by decide)
    (hbase : attributeBase (.Name x p1) "append" X.env (eval (.Name x p1) X.env) = eval (.Name x p1) X.env := by rfl)
    (hfew : ((backTo cpos (starEach (e :: []) X.env)).all (fun x => !x.1) && (backToKw cpos (keywordEach [] X.env)).all (fun x => x.1.isSome)
      && decide ((e :: []).length + ([] : List Keyword).length + (if ([] : List Keyword).isEmpty then 0 else 1) < 30)) = true := by rfl)
    (hline : (apos.endLine == cpos.line) = true := by rfl) (hs : starEach (e :: []) X.env = (false, eval e X.env) :: starEach [] X.env := by rfl) (hplain : (backTo cpos (starEach [] X.env)).any (·.1) = false := by rfl)
    (hsw : swapsWith (.Call (.Attribute (.Name x p1) "append" apos) [e] [] cpos) none pos.line X.env = pure false := by rfl) :
    QS X C W (.Expr (.Call (.Attribute (.Name x p1) "append" apos) [e] [] cpos) pos) (sApp i m) :=
  wkS (ps_expr (pe_bm PySem.F.plainAttrs_list PySem.F.slot_list_append PySem.F.type_list_append mt_append (pe_var (i := i) hN hv hd hcd) (pa_cons he pa_nil hs) hbase hfew hline hs hplain) hsw) fun Dn σ H ⟨A, α, ρ, sr, q⟩ => by
    unfold sApp at q
    cases h1 : ownAt ρ i with
    | none => simp only [h1] at q; exact q.elim
    | some ds0 =>
      simp only [h1] at q
      have h1 := ownAt_some h1
      obtain ⟨l, vs, al, sl, hl, hr⟩ := sr.slot h1
      refine ⟨.ref l, sl, .inl ⟨rfl, vs, SqL.of hl⟩, A, α, ρ, sr, ?_⟩
      cases h2 : m ρ with
      | bad => simp only [h2] at q; exact q.elim
      | ex c p ρ' => simp only [h2] at q; exact fun α' o H' s t x => q α' σ o H' s t x
      | ok d ρ1 =>
        simp only [h2] at q
        intro α1 v H1 s1 t1 r1
        cases h3 : ownAt ρ1 i with
        | none => simp only [h3] at q; exact q.elim
        | some ds =>
          simp only [h3] at q
          have h3 := ownAt_some h3
          by_cases hc : decide (ds.length < 16777216) = true
          · rw [if_pos hc] at q
            obtain ⟨l1, vs1, al1, sl1, hl1, hr1⟩ := s1.slot h3
            obtain rfl := sr.same s1 h1 h3 al al1
            obtain ⟨s2, t2⟩ := s1.write h3 al1 hl1 (hr1.append (.cons r1 .nil))
            exact ⟨l, vs1, v, rfl, rfl, hl1, by rw [← hr1.length, ← sl16]; exact of_decide_eq_true hc, q α1 σ _ s2 (t1.trans t2)⟩
          · rw [if_neg hc] at q
            exact q.elim
/-- own.extend(e), e a new list -/
def sExt (i : Nat) (ms : Rho → Res (List D)) : Rho → SRes := fun ρ => match ownAt ρ i with
  | some _ => (match ms ρ with
    | .ok xs ρ1 => (match ownAt ρ1 i with
      | some ds => if decide (ds.length + xs.length ≤ 16777216) then .nx (ρ1.set i (.o (ds ++ xs))) else .bad
      | none => .bad)
    | .ex c p ρ' => .ex c p ρ'
    | .bad => .bad)
  | none => .bad
theorem qs_ext {i : Nat} {x : Str} (hN : X.N[i]? = some x) (hv : Vis X.env.scope x) (he : VF X C W e ms) (hd : (x == ("__debug__" : Str)) = false := by decide) (hcd : (x == ("__classdict__" : Str)) = false := by decide)
    (hbase : attributeBase (.Name x p1) "extend" X.env (eval (.Name x p1) X.env) = eval (.Name x p1) X.env := by rfl)
    (hfew : ((backTo cpos (starEach (e :: []) X.env)).all (fun x => !x.1) && (backToKw cpos (keywordEach [] X.env)).all (fun x => x.1.isSome)
      && decide ((e :: []).length + ([] : List Keyword).length + (if ([] : List Keyword).isEmpty then 0 else 1) < 30)) = true := by rfl)
    (hline : (apos.endLine == cpos.line) = true := by rfl) (hs : starEach (e :: []) X.env = (false, eval e X.env) :: starEach [] X.env := by rfl) (hplain : (backTo cpos (starEach [] X.env)).any (·.1) = false := by rfl)
    (hsw : swapsWith (.Call (.Attribute (.Name x p1) "extend" apos) [e] [] cpos) none pos.line X.env = pure false := by rfl) :
    QS X C W (.Expr (.Call (.Attribute (.Name x p1) "extend" apos) [e] [] cpos) pos) (sExt i ms) :=
  wkS (ps_expr (pe_bm PySem.F.plainAttrs_list PySem.F.slot_list_extend PySem.F.type_list_extend mt_extend (pe_var (i := i) hN hv hd hcd) (pa_cons he pa_nil hs) hbase hfew hline hs hplain) hsw) fun Dn σ H ⟨A, α, ρ, sr, q⟩ => by
    unfold sExt at q
    cases h1 : ownAt ρ i with
    | none => simp only [h1] at q; exact q.elim
    | some ds0 =>
      simp only [h1] at q
      have h1 := ownAt_some h1
      obtain ⟨l, vs, al, sl, hl, hr⟩ := sr.slot h1
      refine ⟨.ref l, sl, .inl ⟨rfl, vs, SqL.of hl⟩, A, α, ρ, sr, ?_⟩
      cases h2 : ms ρ with
      | bad => simp only [h2] at q; exact q.elim
      | ex c p ρ' => simp only [h2] at q; exact fun α' o H' s t x => q α' σ o H' s t x
      | ok d ρ1 =>
        simp only [h2] at q
        intro α1 p v H1 s1 t1 n1 l1 r1
        cases h3 : ownAt ρ1 i with
        | none => simp only [h3] at q; exact q.elim
        | some ds =>
          simp only [h3] at q
          have h3 := ownAt_some h3
          by_cases hc : decide (ds.length + d.length ≤ 16777216) = true
          · rw [if_pos hc] at q
            obtain ⟨l2, vs1, al1, sl1, hl1, hr1⟩ := s1.slot h3
            obtain rfl := sr.same s1 h1 h3 al al1
            obtain ⟨s2, t2⟩ := s1.write h3 al1 hl1 (hr1.append r1)
            exact ⟨l, p, vs1, v, rfl, rfl, hl1, l1, by rw [← hr1.length, ← r1.length, ← sl16]; exact of_decide_eq_true hc, q α1 σ _ (s2.less fun b z => .inl z) (t1.trans t2)⟩
          · rw [if_neg hc] at q
            exact q.elim
/-- own.pop() -/
def vPop (i : Nat) : Rho → Res D := fun ρ => match ownAt ρ i with
  | some ds => (match ds[ds.length - 1]? with
    | some d => .ok d (ρ.set i (.o ds.dropLast))
    | none => .bad)
  | none => .bad
theorem RepL.dropLast {K : PySem.W.Frag} {F : Addr → Prop} {H : Hp} {ds : List D} {vs : List V} (h : RepL K C F H ds vs) : RepL K C F H ds.dropLast vs.dropLast := by
  rw [List.dropLast_eq_take, List.dropLast_eq_take, h.length]
  exact h.take _
theorem ve_pop {i : Nat} {x : Str} (hN : X.N[i]? = some x) (hv : Vis X.env.scope x) (hd : (x == ("__debug__" : Str)) = false := by decide) (hcd : (x == ("__classdict__" : Str)) = false := by decide)
    (hbase : attributeBase (.Name x p1) "pop" X.env (eval (.Name x p1) X.env) = eval (.Name x p1) X.env := by rfl) (hline : (apos.endLine == cpos.line) = true := by rfl) :
    VE X C W (.Call (.Attribute (.Name x p1) "pop" apos) [] [] cpos) (vPop i) :=
  wkE (pe_bm0 PySem.F.plainAttrs_list PySem.F.slot_list_pop PySem.F.type_list_pop mt_pop (pe_var (i := i) hN hv hd hcd) hbase hline) fun σ H Q ⟨A, α, ρ, sr, q⟩ => by
    unfold vPop at q
    cases h1 : ownAt ρ i with
    | none => simp only [h1] at q; exact q.elim
    | some ds =>
      simp only [h1] at q
      have h1 := ownAt_some h1
      obtain ⟨l, vs, al, sl, hl, hr⟩ := sr.slot h1
      cases h2 : ds[ds.length - 1]? with
      | none => simp only [h2] at q; exact q.elim
      | some d =>
        simp only [h2] at q
        obtain ⟨v, e1, rv⟩ := hr.get h2
        obtain ⟨s2, t2⟩ := sr.write h1 al hl hr.dropLast
        exact ⟨.ref l, sl, .inl ⟨rfl, vs, SqL.of hl⟩, l, vs, v, rfl, rfl, hl, by rw [← hr.length]; exact e1, q α v _ s2 t2 (rv.mv t2.mv)⟩
/-- own.pop(e) -/
def vPopAt (i : Nat) (m : Rho → Res D) : Rho → Res D := fun ρ => match ownAt ρ i with
  | some _ => bindR (m ρ) fun d ρ1 => match intO d, ownAt ρ1 i with
    | some k, some ds => if small62 k then (match seqIndex? k ds.length with
      | some j => (match ds[j]? with
        | some y => .ok y (ρ1.set i (.o (ds.eraseIdx j)))
        | none => .bad)
      | none => .bad) else .bad
    | _, _ => .bad
  | none => .bad
theorem ve_popAt {i : Nat} {x : Str} (hN : X.N[i]? = some x) (hv : Vis X.env.scope x) (he : VE X C W e m) (hd : (x == ("__debug__" : Str)) = false := by decide) (hcd : (x == ("__classdict__" : Str)) = false := by decide)
    (hbase : attributeBase (.Name x p1) "pop" X.env (eval (.Name x p1) X.env) = eval (.Name x p1) X.env := by rfl)
    (hfew : ((backTo cpos (starEach (e :: []) X.env)).all (fun x => !x.1) && (backToKw cpos (keywordEach [] X.env)).all (fun x => x.1.isSome)
      && decide ((e :: []).length + ([] : List Keyword).length + (if ([] : List Keyword).isEmpty then 0 else 1) < 30)) = true := by rfl)
    (hline : (apos.endLine == cpos.line) = true := by rfl) (hs : starEach (e :: []) X.env = (false, eval e X.env) :: starEach [] X.env := by rfl) (hplain : (backTo cpos (starEach [] X.env)).any (·.1) = false := by rfl) :
    VE X C W (.Call (.Attribute (.Name x p1) "pop" apos) [e] [] cpos) (vPopAt i m) :=
  wkE (pe_bm PySem.F.plainAttrs_list PySem.F.slot_list_pop PySem.F.type_list_pop mt_popAt (pe_var (i := i) hN hv hd hcd) (pa_cons he pa_nil hs) hbase hfew hline hs hplain) fun σ H Q ⟨A, α, ρ, sr, q⟩ => by
    unfold vPopAt at q
    cases h1 : ownAt ρ i with
    | none => simp only [h1] at q; exact q.elim
    | some ds0 =>
      simp only [h1] at q
      have h1 := ownAt_some h1
      obtain ⟨l, vs, al, sl, hl, hr⟩ := sr.slot h1
      refine ⟨.ref l, sl, .inl ⟨rfl, vs, SqL.of hl⟩, A, α, ρ, sr, ?_⟩
      cases h2 : m ρ with
      | bad => rw [h2] at q; exact q.elim
      | ex c p ρ' => rw [h2] at q; exact q
      | ok d ρ1 =>
        rw [h2] at q
        simp only [bindR] at q
        intro α1 v H1 s1 t1 r1
        cases h3 : intO d with
        | none => simp only [h3] at q; exact q.elim
        | some k =>
          cases h4 : ownAt ρ1 i with
          | none => simp only [h3, h4] at q; exact q.elim
          | some ds =>
            simp only [h3, h4] at q
            have h4 := ownAt_some h4
            obtain ⟨l1, vs1, al1, sl1, hl1, hr1⟩ := s1.slot h4
            obtain rfl := sr.same s1 h1 h4 al al1
            by_cases hc : small62 k = true
            · rw [if_pos hc] at q
              have hc := small62_ok hc
              cases h5 : seqIndex? k ds.length with
              | none => simp only [h5] at q; exact q.elim
              | some j =>
                simp only [h5] at q
                cases h6 : ds[j]? with
                | none => simp only [h6] at q; exact q.elim
                | some y =>
                  simp only [h6] at q
                  obtain ⟨w, e1, rw1⟩ := hr1.get h6
                  obtain ⟨s2, t2⟩ := s1.write h4 al1 hl1 (hr1.eraseIdx j)
                  rw [intO_some h3] at r1
                  cases r1
                  exact ⟨l, vs1, k, j, w, rfl, rfl, hl1, by omega, by omega, by rw [← hr1.length]; exact h5, e1, q α1 w _ s2 (t1.trans t2) (rw1.mv t2.mv)⟩
            · rw [if_neg hc] at q
              exact q.elim
/-! ### arguments -/
def mN : Rho → Res (List D) := fun ρ => .ok [] ρ
def mC (m : Rho → Res D) (ms : Rho → Res (List D)) : Rho → Res (List D) := fun ρ => bindR (m ρ) fun d ρ1 => bindR (ms ρ1) fun ds ρ2 => .ok (d :: ds) ρ2
theorem va_nil : VA X C W [] mN := wkA pa_nil fun σ H Q ⟨A, α, ρ, sr, q⟩ => q α _ H sr Stp.refl .nil
theorem va_cons (ha : VE X C W e m) (hr : VA X C W es ms) (hs : starEach (e :: es) X.env = (false, eval e X.env) :: starEach es X.env := by rfl) : VA X C W (e :: es) (mC m ms) :=
  wkA (pa_cons ha hr hs) fun σ H Q ⟨A, α, ρ, sr, q⟩ => by
    refine ⟨A, α, ρ, sr, ?_⟩
    unfold mC at q
    cases h1 : m ρ with
    | bad => rw [h1] at q; exact q.elim
    | ex c p ρ' => rw [h1] at q; exact q
    | ok d ρ1 =>
      rw [h1] at q
      simp only [bindR] at q
      intro α1 v H1 s1 t1 r1
      refine ⟨A, α1, ρ1, s1, ?_⟩
      cases h2 : ms ρ1 with
      | bad => rw [h2] at q; exact q.elim
      | ex c p ρ' => rw [h2] at q; exact fun α2 o H2 s2 t2 x => q α2 o H2 s2 (t1.trans t2) x
      | ok ds ρ2 =>
        rw [h2] at q
        exact fun α2 vs H2 s2 t2 r2 => q α2 _ H2 s2 (t1.trans t2) (.cons (r1.mv t2.mv) r2)
/-! ### calls of the text's defs -/
def spP (K : PySem.W.Frag) (C : Ctx) (n : Nat) (F : List D → FRes) : Sp := fun vs H Q E => ∃ A ds, DmF A H ∧ LamX.Tabs C.T H ∧ RepL K C A H ds vs ∧ ds.length = n ∧ match F ds with
  | .ok d => ∀ v H', Gro C H H' → Rep K C A H' d v → Q v H'
  | .ex c p => ∀ o H', Gro C H H' → XR K C A H' c p o → E (C.cls c) o H'
  | .bad => False
def okF : FRes → Option D
  | .ok d => some d
  | _ => none
def qF (F : List D → FRes) (fs : Rho → Option (List D)) : Rho → Option D := fun ρ => (fs ρ).bind fun ds => okF (F ds)
section
variable {CX : CXT} {k n : Nat} {g : Addr} {fd : FuncData} {ps : List Str} {x : Str} {p : Pos} {F : List D → FRes}
/-- f(e, ..), nothing raised -/
theorem qe_call (G : FnOkG X.prog X.w X.K X.mg X.base CX k g fd ps (spP X.K C n F)) (hr : RoomG k X.A) (hg : Gl X x) (hm : X.mg x = some (.ref g)) (hk : PySem.W.keepIn X.K (.ref g) = true) (hb : Binds X.K fd ps []) (hx : Passes CX X E0)
    (ha : QA X C (e :: es) fs) (hn : (e :: es).length = n := by rfl) (hdb : (x == ("__debug__" : Str)) = false := by decide) (he : starEach (e :: es) X.env = (false, eval e X.env) :: starEach es X.env := by rfl) (hpl : (backTo pos (starEach es X.env)).any (·.1) = false := by rfl) :
    QE X C (.Call (.Name x p) (e :: es) [] pos) (qF F fs) :=
  wkE (pe_callG G hr hg hm hk hb .nil hx ha.pa hdb he hpl) fun σ H Q ⟨A, α, ρ, d, sr, q1, q⟩ => by
    obtain ⟨ds, e1, e2⟩ := bind_some q1
    refine ⟨A, α, ρ, ds, sr, e1, fun vs H1 g1 r1 => ?_⟩
    have s1 := sr.grow g1
    show spP X.K C n F (vs ++ []) H1 Q E0
    rw [List.append_nil]
    refine ⟨Fb A α, ds, s1.dm, s1.tabs, r1, by rw [ha.len ρ ds e1]; exact hn, ?_⟩
    cases hF : F ds with
    | ok d' =>
      rw [hF] at e2
      cases e2
      exact fun v H' g2 r2 => q v H' (g1.trans g2) r2
    | ex c p => rw [hF] at e2; cases e2
    | bad => rw [hF] at e2; cases e2
theorem qe_call0 (G : FnOkG X.prog X.w X.K X.mg X.base CX k g fd ps (spP X.K C 0 F)) (hr : RoomG k X.A) (hg : Gl X x) (hm : X.mg x = some (.ref g)) (hk : PySem.W.keepIn X.K (.ref g) = true) (hb : Binds X.K fd ps []) (hx : Passes CX X E0)
    (hdb : (x == ("__debug__" : Str)) = false := by decide) : QE X C (.Call (.Name x p) [] [] pos) (qF F aN) :=
  wkE (pe_call0G G hr hg hm hk hb .nil hx hdb) fun σ H Q ⟨A, α, ρ, d, sr, q1, q⟩ => by
    obtain ⟨ds, e1, e2⟩ := bind_some q1
    cases e1
    refine ⟨Fb A α, [], sr.dm, sr.tabs, .nil, rfl, ?_⟩
    cases hF : F [] with
    | ok d' =>
      rw [hF] at e2
      cases e2
      exact fun v H' g2 r2 => q v H' g2 r2
    | ex c p => rw [hF] at e2; cases e2
    | bad => rw [hF] at e2; cases e2
def vF (F : List D → FRes) (ms : Rho → Res (List D)) : Rho → Res D := fun ρ => bindR (ms ρ) fun ds ρ1 => match F ds with
  | .ok d => .ok d ρ1
  | .ex c p => .ex c p ρ1
  | .bad => .bad
theorem XR.mv {K : PySem.W.Frag} {F F' : Addr → Prop} {H : Hp} {c : Nat} {p : D} {o : Option Addr} (m : Mv F F' H H) (x : XR K C F H c p o) : XR K C F' H c p o := by
  unfold XR at x ⊢
  cases hfl : C.fld c with
  | none => rw [hfl] at x; exact x
  | some f =>
    rw [hfl] at x
    obtain ⟨dd, u, x1, x0, x2, x3⟩ := x
    exact ⟨dd, u, x1, m.nf _ _ x2 (fun _ z => nomatch z) x0, x2, x3.mv m⟩
/-- f(e, ..), which may raise what W takes -/
theorem ve_call (G : FnOkG X.prog X.w X.K X.mg X.base CX k g fd ps (spP X.K C n F)) (hr : RoomG k X.A) (hg : Gl X x) (hm : X.mg x = some (.ref g)) (hk : PySem.W.keepIn X.K (.ref g) = true) (hb : Binds X.K fd ps []) (hx : ∀ σ, PassesAt CX X σ (WE W σ))
    (ha : VA X C W (e :: es) ms) (hn : ∀ ρ ds ρ', ms ρ = .ok ds ρ' → ds.length = n) (hdb : (x == ("__debug__" : Str)) = false := by decide) (he : starEach (e :: es) X.env = (false, eval e X.env) :: starEach es X.env := by rfl) (hpl : (backTo pos (starEach es X.env)).any (·.1) = false := by rfl) :
    VE X C W (.Call (.Name x p) (e :: es) [] pos) (vF F ms) :=
  wkE (pe_callSG G hr hg hm hk hb .nil hx ha hdb he hpl) fun σ H Q ⟨A, α, ρ, sr, q⟩ => by
    refine ⟨A, α, ρ, sr, ?_⟩
    unfold vF at q
    cases h1 : ms ρ with
    | bad => rw [h1] at q; exact q.elim
    | ex c p ρ' => rw [h1] at q; exact q
    | ok ds ρ1 =>
      rw [h1] at q
      simp only [bindR] at q
      intro α1 vs H1 s1 t1 r1
      show spP X.K C n F (vs ++ []) H1 Q (WE W σ)
      rw [List.append_nil]
      refine ⟨Fb A α1, ds, s1.dm, s1.tabs, r1, hn _ _ _ h1, ?_⟩
      cases hF : F ds with
      | ok d' =>
        simp only [hF] at q
        exact fun v H' g2 r2 => q α1 v H' (s1.grow g2) (t1.trans (Stp.of_gro g2)) r2
      | ex c p =>
        simp only [hF] at q
        exact fun o H' g2 x => q α1 o H' (s1.grow g2) (t1.trans (Stp.of_gro g2)) x
      | bad =>
        simp only [hF] at q
        exact q.elim
theorem mLen0 : ∀ ρ ds ρ', mN ρ = .ok ds ρ' → ds.length = 0 := fun ρ ds ρ' h => by cases h; rfl
theorem mLen {m : Rho → Res D} {ms : Rho → Res (List D)} {n : Nat} (h : ∀ ρ ds ρ', ms ρ = .ok ds ρ' → ds.length = n) : ∀ ρ ds ρ', mC m ms ρ = .ok ds ρ' → ds.length = n + 1 := fun ρ ds ρ' e => by
  unfold mC at e
  cases h1 : m ρ with
  | bad => rw [h1] at e; cases e
  | ex c p ρ' => rw [h1] at e; cases e
  | ok d ρ1 =>
    rw [h1] at e
    simp only [bindR] at e
    cases h2 : ms ρ1 with
    | bad => rw [h2] at e; cases e
    | ex c p ρ' => rw [h2] at e; cases e
    | ok ds ρ2 =>
      rw [h2] at e
      cases e
      rw [List.length_cons, h _ _ _ h2]
/-! ### a def that changes the list that it is handed first -/
abbrev FIO := List D → List D → Option (D × List D)
def spIO (K : PySem.W.Frag) (C : Ctx) (n : Nat) (F : FIO) : Sp := fun vs H Q _ => ∃ Fo ds a ws xs vs', vs = .ref a :: vs' ∧ Fo a ∧ H a = some (.lst ws) ∧ RepL K C Fo H xs ws ∧ DmF Fo H ∧ LamX.Tabs C.T H ∧ RepL K C Fo H ds vs' ∧ ds.length = n ∧ match F xs ds with
  | some (d, xs') => ∀ v H' ws', Kp (fun b => b = a) H H' → LamX.Tabs C.T H' → (∀ b, H' b = none → H b = none) → H' a = some (.lst ws') → RepL K C Fo H' xs' ws' → Rep K C Fo H' d v → Q v H'
  | none => False
def vIO (i : Nat) (F : FIO) (ms : Rho → Res (List D)) : Rho → Res D := fun ρ => match ownAt ρ i with
  | some _ => bindR (ms ρ) fun ds ρ1 => match ownAt ρ1 i with
    | some xs => (match F xs ds with
      | some (d, xs') => .ok d (ρ1.set i (.o xs'))
      | none => .bad)
    | none => .bad
  | none => .bad
theorem ve_io {i : Nat} {y : Str} {py : Pos} {F : FIO} (G : FnOkG X.prog X.w X.K X.mg X.base CX k g fd ps (spIO X.K C n F)) (hr : RoomG k X.A) (hg : Gl X x) (hm : X.mg x = some (.ref g)) (hk : PySem.W.keepIn X.K (.ref g) = true) (hb : Binds X.K fd ps []) (hx : Passes CX X E0)
    (hN : X.N[i]? = some y) (hv : Vis X.env.scope y) (ha : VA X C W es ms) (hn : ∀ ρ ds ρ', ms ρ = .ok ds ρ' → ds.length = n) (hd : (y == ("__debug__" : Str)) = false := by decide) (hcd : (y == ("__classdict__" : Str)) = false := by decide)
    (hs : starEach (.Name y py :: es) X.env = (false, eval (.Name y py) X.env) :: starEach es X.env := by rfl) (hdb : (x == ("__debug__" : Str)) = false := by decide) (hpl : (backTo pos (starEach es X.env)).any (·.1) = false := by rfl) :
    VE X C W (.Call (.Name x p) (.Name y py :: es) [] pos) (vIO i F ms) :=
  wkE (pe_callG G hr hg hm hk hb .nil hx (pa_cons (pe_var (i := i) hN hv hd hcd) ha hs) hdb hs hpl) fun σ H Q ⟨A, α, ρ, sr, q⟩ => by
    unfold vIO at q
    cases h1 : ownAt ρ i with
    | none => simp only [h1] at q; exact q.elim
    | some ds0 =>
      simp only [h1] at q
      have h1 := ownAt_some h1
      obtain ⟨l, vs, al, sl, hl, hr1⟩ := sr.slot h1
      refine ⟨.ref l, sl, A, α, ρ, sr, ?_⟩
      cases h2 : ms ρ with
      | bad => rw [h2] at q; exact q.elim
      | ex c p ρ' => rw [h2] at q; exact q
      | ok ds ρ1 =>
        rw [h2] at q
        simp only [bindR] at q
        intro α1 vs1 H1 s1 t1 r1
        cases h3 : ownAt ρ1 i with
        | none => simp only [h3] at q; exact q.elim
        | some xs =>
          simp only [h3] at q
          have h3 := ownAt_some h3
          obtain ⟨l1, ws, al1, sl1, hl1, hr2⟩ := s1.slot h3
          obtain rfl := sr.same s1 h1 h3 al al1
          show spIO X.K C n F ((.ref l :: vs1) ++ []) H1 Q E0
          rw [List.append_nil]
          refine ⟨Fb A α1, ds, l, ws, xs, vs1, rfl, .inr ⟨i, al1⟩, hl1, hr2, s1.dm, s1.tabs, r1, hn _ _ _ h2, ?_⟩
          cases hF : F xs ds with
          | none =>
            simp only [hF] at q
            exact q.elim
          | some p =>
            obtain ⟨d, xs'⟩ := p
            simp only [hF] at q ⊢
            intro v H' ws' kp tb nn hl' rl rd
            have m : Mv (Fb A α1) (Fb A α1) H1 H' := ⟨fun b o e n => kp b o e (n.elim (fun n => .inl ⟨fun z => n.1 (.inr ⟨i, by rw [z]; exact al1⟩), n.2⟩) .inr), fun _ _ _ _ n => n⟩
            have s2 : SR X.K C A α1 (ρ1.set i (.o xs')) σ H' := by
              refine ⟨by rw [List.length_set, s1.len], s1.inj, fun j h => s1.out j (by rw [List.length_set] at h; exact h), fun j x e => ?_, fun b h => ?_, s1.na, tb⟩
              · by_cases hj : i = j
                · subst hj
                  rw [List.getElem?_set_self (List.getElem?_eq_some_iff.mp h3).1] at e
                  cases e
                  exact ⟨l, ws', al1, sl1, hl', rl⟩
                · rw [List.getElem?_set_ne hj] at e
                  have q := s1.sl j x e
                  cases x with
                  | no => exact q
                  | v d => obtain ⟨e1, v, e2, r⟩ := q; exact ⟨e1, v, e2, r.mv m⟩
                  | o ds' =>
                    obtain ⟨a', vs', e1, e2, e3, r⟩ := q
                    exact ⟨a', vs', e1, e2, kp _ _ e3 (.inl ⟨fun z => hj (s1.inj i j l al1 (by rw [← z]; exact e1)), NT.lst _⟩), r.mv m⟩
                  | w es =>
                    obtain ⟨a', vs', e1, e2, e3, e4, r⟩ := q
                    exact ⟨a', vs', e1, e2, kp _ _ e3 (.inl ⟨fun z => hj (s1.inj i j l al1 (by rw [← z]; exact e1)), fun _ z => nomatch z⟩), e4, r.mv m⟩
              · obtain ⟨o, e, t⟩ := s1.dom b h
                exact ⟨o, kp _ _ e (.inl ⟨fun z => s1.na i l al1 (by rw [← z]; exact h), t⟩), t⟩
            have t2 : Stp C α1 H1 α1 H' := ⟨fun b o e n => kp b o e (n.elim (fun n => .inl ⟨fun z => n.1 ⟨i, by rw [z]; exact al1⟩, n.2⟩) .inr), fun _ => tb, nn, fun j b e => .inl ⟨j, e⟩, fun b e => e⟩
            exact q α1 v H' s2 (t1.trans t2) rd
end
/-! ### a def keeps its promise -/
/-- nothing is raised -/
def fz : FRes → FRes
  | .ok d => .ok d
  | _ => .bad
def start0 (n : Nat) (ds : List D) : Rho := ds.map Sl.v ++ List.replicate (n - ds.length) .no
def finF : SRes → FRes
  | .nx _ => .ok .non
  | .rt d _ => .ok d
  | .ex c p _ => .ex c p
  | _ => .bad
/-- what a def's body makes of its arguments -/
def runF (n : Nat) (body : Rho → SRes) : List D → FRes := fun ds => finF (body (start0 n ds))
end
section
variable {K : PySem.W.Frag} {C : Ctx} {A : Addr → Prop} {H : Hp}
theorem start0_len {n : Nat} {ds : List D} (h : ds.length ≤ n) : (start0 n ds).length = n := by
  unfold start0
  rw [List.length_append, List.length_map, List.length_replicate]
  omega
theorem sr_start {N : List Str} {ds : List D} {vs : List V} (hd : DmF A H) (ht : LamX.Tabs C.T H) (r : RepL K C A H ds vs) (hl : ds.length ≤ N.length) : SR K C A (fun _ => none) (start0 N.length ds) (L2.start N vs) H := by
  have fw : ∀ b, Fb A (fun _ => none) b → A b := fun b z => z.elim id fun ⟨_, z⟩ => nomatch z
  refine ⟨?_, (fun i j a h => nomatch h), (fun _ _ => rfl), (fun i x e => ?_), hd, (fun i a h => nomatch h), ht⟩
  · rw [start0_len hl]
    unfold L2.start
    rw [List.length_append, List.length_map, List.length_replicate, ← r.length]
    omega
  · unfold start0 at e
    unfold L2.start
    by_cases hi : i < ds.length
    · rw [List.getElem?_append_left (by rw [List.length_map]; exact hi), List.getElem?_map, List.getElem?_eq_getElem hi] at e
      cases e
      obtain ⟨v, e2, rv⟩ := r.get (List.getElem?_eq_getElem hi)
      refine ⟨rfl, v, ?_, rv.mv (Mv.weak fw)⟩
      rw [List.getElem?_append_left (by rw [List.length_map, ← r.length]; exact hi), List.getElem?_map, e2]
      rfl
    · rw [List.getElem?_append_right (by rw [List.length_map]; omega)] at e
      have e1 : x = .no := by
        rw [List.getElem?_replicate] at e
        split at e
        · cases e; rfl
        · cases e
      subst e1
      rfl
variable {P : Program} {w : World} {mg : Str → Option Value} {base : Heap} {x qual : Str} {params : Arguments} {body : List Stmt} {scope : Scope} {dvs : List V} {kws : List (Str × V)} {f : Addr} {fd : FuncData} {N ps : List Str} {k : Nat}
theorem Stp.gro {α' : Nat → Option Addr} {H' : Hp} (t : Stp C (fun _ => none) H α' H') : Gro C H H' := ⟨fun b o e n => t.kp b o e (n.elim (fun n => .inl ⟨(fun z => by obtain ⟨_, z⟩ := z; cases z), n.2⟩) .inr), t.tb, t.nn⟩
theorem fb_A {α' : Nat → Option Addr} : ∀ b, A b → Fb A α' b := fun b z => .inl z
/-- a def that raises nothing -/
theorem fn_ok {m : Rho → SRes} (F : FunD K x qual params body scope dvs kws f fd) (S : FnScope N ps scope) (hl : ps.length ≤ N.length)
    (hb : ∀ (cdv : Value) (Ar : Around) (outer : List Env) (s : Shared) (H : Hp) (E : XK), cdv = .ref (codeAt K f) → RoomG k (Ar.deeper (envOfC qual scope s.heap.objs.size f cdv)) → QSs (cxOf CX0 P w K mg base N qual scope f cdv Ar outer s H E).nox C (fun _ _ _ _ => False) body m) :
    FnOkG P w K mg base CX0 (k + 1) f fd ps (spP K C ps.length (fun ds => fz (runF N.length m ds))) := by
  refine funD_okG F S (fun vs H Q E h => ?_) (fun cdv Ar outer s H vs Q E hcv hr h => ⟨_, (hb cdv Ar outer s H E hcv hr).nox, ?_⟩)
  · obtain ⟨A, ds, _, _, r, e, _⟩ := h
    rw [← r.length, e]
  · obtain ⟨A, ds, hd, ht, r, e, q⟩ := h
    refine ⟨A, _, _, sr_start hd ht r (by rw [e]; exact hl), ?_⟩
    cases hm : m (start0 N.length ds) with
    | nx ρ' => simp only [runF, hm, finF, fz] at q; exact fun α' σ' H' s t => q _ H' t.gro .non
    | rt d ρ' => simp only [runF, hm, finF, fz] at q; exact fun α' σ' v H' s t r => q v H' t.gro (r.mv (Mv.weak fb_A))
    | bk ρ' => simp only [runF, hm, finF, fz] at q
    | ct ρ' => simp only [runF, hm, finF, fz] at q
    | ex c p ρ' => simp only [runF, hm, finF, fz] at q
    | bad => simp only [runF, hm, finF, fz] at q
/-- a def that may raise -/
theorem fn_okX {m : Rho → SRes} (F : FunD K x qual params body scope dvs kws f fd) (S : FnScope N ps scope) (hl : ps.length ≤ N.length)
    (hb : ∀ (cdv : Value) (Ar : Around) (outer : List Env) (s : Shared) (H : Hp) (E : XK), cdv = .ref (codeAt K f) → RoomG k (Ar.deeper (envOfC qual scope s.heap.objs.size f cdv)) → QSs (cxOf (L2.CX P w) P w K mg base N qual scope f cdv Ar outer s H E) C (fun cls d _ H => E cls d H) body m) :
    FnOkG P w K mg base (L2.CX P w) (k + 1) f fd ps (spP K C ps.length (runF N.length m)) := by
  refine funD_okG F S (fun vs H Q E h => ?_) (fun cdv Ar outer s H vs Q E hcv hr h => ⟨_, hb cdv Ar outer s H E hcv hr, ?_⟩)
  · obtain ⟨A, ds, _, _, r, e, _⟩ := h
    rw [← r.length, e]
  · obtain ⟨A, ds, hd, ht, r, e, q⟩ := h
    refine ⟨A, _, _, sr_start hd ht r (by rw [e]; exact hl), ?_⟩
    cases hm : m (start0 N.length ds) with
    | nx ρ' => simp only [runF, hm, finF] at q; exact fun α' σ' H' s t => q _ H' t.gro .non
    | rt d ρ' => simp only [runF, hm, finF] at q; exact fun α' σ' v H' s t r => q v H' t.gro (r.mv (Mv.weak fb_A))
    | bk ρ' => simp only [runF, hm, finF] at q
    | ct ρ' => simp only [runF, hm, finF] at q
    | ex c p ρ' => simp only [runF, hm, finF] at q; exact fun α' σ' o H' s t x => q o H' t.gro (x.mv (Mv.weak fb_A))
    | bad => simp only [runF, hm, finF] at q
/-! ### a def that changes the list handed first -/
def startI (n : Nat) (xs ds : List D) : Rho := .o xs :: (ds.map Sl.v ++ List.replicate (n - 1 - ds.length) .no)
def ioF : SRes → Option (D × List D)
  | .nx ρ => (ownAt ρ 0).map fun xs => (.non, xs)
  | .rt d ρ => (ownAt ρ 0).map fun xs => (d, xs)
  | _ => none
def runI (n : Nat) (body : Rho → SRes) : FIO := fun xs ds => ioF (body (startI n xs ds))
theorem sr_startI {N : List Str} {xs ds : List D} {a : Addr} {ws vs : List V} {Fo : Addr → Prop} (fa : Fo a) (hd : DmF Fo H) (ht : LamX.Tabs C.T H) (l : H a = some (.lst ws)) (rx : RepL K C Fo H xs ws) (r : RepL K C Fo H ds vs) (hl : ds.length + 1 ≤ N.length) :
    SR K C (fun b => Fo b ∧ b ≠ a) (fun i => if i = 0 then some a else none) (startI N.length xs ds) (L2.start N (.ref a :: vs)) H := by
  have fw : ∀ b, Fb (fun b => Fo b ∧ b ≠ a) (fun i => if i = 0 then some a else none) b → Fo b := fun b z => by
    rcases z with z | ⟨i, z⟩
    · exact z.1
    · have z : (if i = 0 then some a else none) = some b := z
      split at z
      · cases z; exact fa
      · cases z
  refine ⟨?_, (fun i j b h1 h2 => ?_), fun i h => ?_, fun i x e => ?_, fun b z => hd b z.1, (fun i b e z => ?_), ht⟩
  · unfold startI L2.start
    rw [List.length_cons, List.length_append, List.length_append, List.length_map, List.length_map, List.length_replicate, List.length_replicate, List.length_cons, ← r.length]
    omega
  · split at h1
    · split at h2
      · omega
      · cases h2
    · cases h1
  · unfold startI at h
    rw [List.length_cons] at h
    rw [if_neg (by omega)]
  · unfold startI at e
    unfold L2.start
    cases i with
    | zero =>
      cases e
      exact ⟨a, ws, rfl, rfl, l, rx.mv (Mv.weak fw)⟩
    | succ i =>
      rw [List.getElem?_cons_succ] at e
      by_cases hi : i < ds.length
      · rw [List.getElem?_append_left (by rw [List.length_map]; exact hi), List.getElem?_map, List.getElem?_eq_getElem hi] at e
        cases e
        obtain ⟨v, e2, rv⟩ := r.get (List.getElem?_eq_getElem hi)
        refine ⟨rfl, v, ?_, rv.mv (Mv.weak fw)⟩
        rw [List.getElem?_append_left (by rw [List.length_map, List.length_cons, ← r.length]; omega), List.getElem?_map, List.getElem?_cons_succ, e2]
        rfl
      · rw [List.getElem?_append_right (by rw [List.length_map]; omega)] at e
        have e1 : x = .no := by
          rw [List.getElem?_replicate] at e
          split at e
          · cases e; rfl
          · cases e
        subst e1
        rfl
  · split at e
    · cases e; exact z.2 rfl
    · cases e
theorem fn_okI {m : Rho → SRes} (F : FunD K x qual params body scope dvs kws f fd) (S : FnScope N ps scope) {n : Nat} (hp : ps.length = n + 1) (hl : ps.length ≤ N.length)
    (hb : ∀ (cdv : Value) (Ar : Around) (outer : List Env) (s : Shared) (H : Hp) (E : XK), cdv = .ref (codeAt K f) → RoomG k (Ar.deeper (envOfC qual scope s.heap.objs.size f cdv)) → QSs (cxOf CX0 P w K mg base N qual scope f cdv Ar outer s H E).nox C (fun _ _ _ _ => False) body m) :
    FnOkG P w K mg base CX0 (k + 1) f fd ps (spIO K C n (runI N.length m)) := by
  refine funD_okG F S (fun vs H Q E h => ?_) (fun cdv Ar outer s H vs Q E hcv hr h => ⟨_, (hb cdv Ar outer s H E hcv hr).nox, ?_⟩)
  · obtain ⟨Fo, ds, a, ws, xs, vs', rfl, _, _, _, _, _, r, e, _⟩ := h
    rw [List.length_cons, ← r.length, e, hp]
  · obtain ⟨Fo, ds, a, ws, xs, vs', rfl, fa, l, rx, hd, ht, r, e, q⟩ := h
    refine ⟨_, _, _, sr_startI fa hd ht l rx r (by rw [e, ← hp]; exact hl), ?_⟩
    have fin : ∀ {ρ' : Rho} {d : D} {α' : Nat → Option Addr} {σ' : L2.St} {v : V} {H' : Hp} {xs' : List D}, ownAt ρ' 0 = some xs' → SR K C (fun b => Fo b ∧ b ≠ a) α' ρ' σ' H' → Stp C (fun i => if i = 0 then some a else none) H α' H' →
        (∃ ws', H' a = some (.lst ws') ∧ RepL K C Fo H' xs' ws') ∧ Kp (fun b => b = a) H H' ∧ LamX.Tabs C.T H' ∧ (∀ b, H' b = none → H b = none) ∧ ∀ b, Fo b → Fb (fun b => Fo b ∧ b ≠ a) α' b := fun {ρ' d α' σ' v H' xs'} ho s t => by
      have z := t.z a rfl
      obtain ⟨a', ws', e1, _, e3, r3⟩ := s.sl 0 _ (ownAt_some ho)
      rw [z] at e1
      cases e1
      have fw : ∀ b, Fo b → Fb (fun b => Fo b ∧ b ≠ a) α' b := fun b hb => by
        by_cases h : b = a
        · exact .inr ⟨0, by rw [z, h]⟩
        · exact .inl ⟨hb, h⟩
      refine ⟨⟨ws', e3, r3.mv (Mv.weak fw)⟩, fun b o e n => t.kp b o e (n.elim (fun n => .inl ⟨fun ⟨i, z⟩ => ?_, n.2⟩) .inr), s.tabs, t.nn, fw⟩
      have z : (if i = 0 then some a else none) = some b := z
      split at z
      · cases z; exact n.1 rfl
      · cases z
    cases hm : m (startI N.length xs ds) with
    | nx ρ' =>
      simp only [runI, hm, ioF] at q
      cases ho : ownAt ρ' 0 with
      | none => simp only [ho, Option.map_none] at q
      | some xs' =>
        simp only [ho, Option.map_some] at q
        intro α' σ' H' s t
        obtain ⟨⟨ws', l', r'⟩, kp, tb, nn, fw⟩ := fin (d := .non) (v := .non) ho s t
        exact q _ H' ws' kp tb nn l' r' .non
    | rt d ρ' =>
      simp only [runI, hm, ioF] at q
      cases ho : ownAt ρ' 0 with
      | none => simp only [ho, Option.map_none] at q
      | some xs' =>
        simp only [ho, Option.map_some] at q
        intro α' σ' v H' s t rd
        obtain ⟨⟨ws', l', r'⟩, kp, tb, nn, fw⟩ := fin (d := d) (v := v) ho s t
        exact q v H' ws' kp tb nn l' r' (rd.mv (Mv.weak fw))
    | bk ρ' => simp only [runI, hm, ioF] at q
    | ct ρ' => simp only [runI, hm, ioF] at q
    | ex c p ρ' => simp only [runI, hm, ioF] at q
    | bad => simp only [runI, hm, ioF] at q
end
end VL
end
section
set_option Elab.async false
set_option linter.all false
set_option maxRecDepth 100000
set_option maxHeartbeats 2000000
/-! VL8: operators, built-ins, displays, comprehensions, tests over expressions that may change owned lists or raise; loops. -/
namespace VL
open PySem PySem.Spec L2
open PyProof.Rows hiding St
def optR {β : Type} (o : Option β) (ρ : Rho) : Res β := match o with
  | some d => .ok d ρ
  | none => .bad
section
variable {X : Cx} {C : Ctx} {W : WX} {e a b c : Expr} {es : List Expr} {pos p : Pos} {fa fb f : Rho → Option D} {m ma mb mc : Rho → Res D} {ms : Rho → Res (List D)} {fs : Rho → Option (List D)}
def v2 (sem : O2) (ma mb : Rho → Res D) : Rho → Res D := fun ρ => bindR (ma ρ) fun x ρ1 => bindR (mb ρ1) fun y ρ2 => optR (sem x y) ρ2
abbrev opRd (X : Cx) (C : Ctx) (sem : O2) : R2 := fun x y H Q => ∃ F d e r, DmF F H ∧ RepB X.K C F H d x ∧ RepB X.K C F H e y ∧ sem d e = some r ∧ ∀ v H', Gro C H H' → Rep X.K C F H' r v → Q v H'
theorem opV_rd {sem : O2} {σ : L2.St} {H : Hp} {Q : VK} (h : rdV X.K C W (v2 sem ma mb) σ H Q) : tOp (opRd X C sem) (rdV X.K C W ma) (rdV X.K C W mb) σ H Q := by
  obtain ⟨A, α, ρ, sr, q⟩ := h
  refine ⟨A, α, ρ, sr, ?_⟩
  unfold v2 at q
  cases h1 : ma ρ with
  | bad => rw [h1] at q; exact q.elim
  | ex c p ρ' => rw [h1] at q; exact q
  | ok x ρ1 =>
    rw [h1] at q
    simp only [bindR] at q
    intro α1 v H1 s1 t1 r1
    refine ⟨A, α1, ρ1, s1, ?_⟩
    cases h2 : mb ρ1 with
    | bad => rw [h2] at q; exact q.elim
    | ex c p ρ' => rw [h2] at q; exact fun α2 o H2 s2 t2 x => q α2 o H2 s2 (t1.trans t2) x
    | ok y ρ2 =>
      rw [h2] at q
      simp only [optR] at q
      cases h3 : sem x y with
      | none => rw [h3] at q; exact q.elim
      | some r =>
        rw [h3] at q
        exact fun α2 w H2 s2 t2 r2 => ⟨Fb A α2, x, y, r, s2.dm, .inl (r1.mv t2.mv), .inl r2, h3, fun u H3 g3 r3 => q α2 u H3 (s2.grow g3) ((t1.trans t2).trans (Stp.of_gro g3)) r3⟩
theorem ve_op {op : Operator} {sem : O2} (ho : OpQ X C (binaryOp op) sem) (ha : VE X C W a ma) (hb : VE X C W b mb) : VE X C W (.BinOp a op b pos) (v2 sem ma mb) := wkE (pe_op ho ha hb) fun σ H Q h => opV_rd h
theorem ve_cmp {op : CmpOp} {sem : O2} (ho : OpQ X C (compareOp op) sem) (ha : VE X C W a ma) (hb : VE X C W b mb) (hm : behindInMarks op b = false) : VE X C W (.Compare a [op] [b] pos) (v2 sem ma mb) := wkE (pe_cmpR ho ha hb hm) fun σ H Q h => opV_rd h
theorem ve_ix (ha : VE X C W a ma) (hb : VE X C W b mb) (hs : PlainIx b := by intro _ _; rfl) : VE X C W (.Subscript a b pos) (v2 ixD ma mb) := wkE (pe_ix ix_rd ha hb hs) fun σ H Q h => opV_rd h
def vU (g : D → Option D) (ma : Rho → Res D) : Rho → Res D := fun ρ => bindR (ma ρ) fun x ρ1 => optR (g x) ρ1
/-! ### built-ins, displays -/
def vCB (sem : List D → Option D) (ms : Rho → Res (List D)) : Rho → Res D := fun ρ => bindR (ms ρ) fun ds ρ1 => optR (sem ds) ρ1
def vCF (sem : List D → Option (List D)) (ms : Rho → Res (List D)) : Rho → Res (List D) := fun ρ => bindR (ms ρ) fun ds ρ1 => optR (sem ds) ρ1
theorem cbV_rd {sem : List D → Option D} {σ : L2.St} {H : Hp} {Q : VK} (h : rdV X.K C W (vCB sem ms) σ H Q) :
    tCB (fun vs H Q => ∃ F ds d, DmF F H ∧ RepBL X.K C F H ds vs ∧ sem ds = some d ∧ ∀ v H', Gro C H H' → Rep X.K C F H' d v → Q v H') (rdVA X.K C W ms) σ H Q := by
  obtain ⟨A, α, ρ, sr, q⟩ := h
  refine ⟨A, α, ρ, sr, ?_⟩
  unfold vCB at q
  cases h1 : ms ρ with
  | bad => rw [h1] at q; exact q.elim
  | ex c p ρ' => rw [h1] at q; exact q
  | ok ds ρ1 =>
    rw [h1] at q
    simp only [bindR, optR] at q
    cases h2 : sem ds with
    | none => rw [h2] at q; exact q.elim
    | some d =>
      rw [h2] at q
      exact fun α1 vs H1 s1 t1 r1 => ⟨Fb A α1, ds, d, s1.dm, RepBL.of r1, h2, fun v H2 g2 r2 => q α1 v H2 (s1.grow g2) (t1.trans (Stp.of_gro g2)) r2⟩
theorem fb_ad {A : Addr → Prop} {α : Nat → Option Addr} {a : Addr} : ∀ b, Fb (Ad A a) α b → Ad (Fb A α) a b := fun b z => by
  rcases z with (z | z) | z
  · exact .inl (.inl z)
  · exact .inr z
  · exact .inl (.inr z)
theorem cfV_rd {sem : List D → Option (List D)} {σ : L2.St} {H : Hp} {Q : VK} (h : rdVF X.K C W (vCF sem ms) σ H Q) :
    tCB (fun vs H Q => ∃ F ds xs, DmF F H ∧ RepBL X.K C F H ds vs ∧ sem ds = some xs ∧ ∀ a ws H', Gro C H H' → H a = none → H' a = some (.lst ws) → RepL X.K C (Ad F a) H' xs ws → Q (.ref a) H') (rdVA X.K C W ms) σ H Q := by
  obtain ⟨A, α, ρ, sr, q⟩ := h
  refine ⟨A, α, ρ, sr, ?_⟩
  unfold vCF at q
  cases h1 : ms ρ with
  | bad => rw [h1] at q; exact q.elim
  | ex c p ρ' => rw [h1] at q; exact q
  | ok ds ρ1 =>
    rw [h1] at q
    simp only [bindR, optR] at q
    cases h2 : sem ds with
    | none => rw [h2] at q; exact q.elim
    | some d =>
      rw [h2] at q
      exact fun α1 vs H1 s1 t1 r1 => ⟨Fb A α1, ds, d, s1.dm, RepBL.of r1, h2, fun a v H2 g2 n l r2 => q α1 a v H2 (s1.addA n g2 l (NT.lst _)).1 (t1.trans (Stp.of_gro g2)) (t1.nn _ n) l (r2.mv (Mv.weak fb_ad))⟩
theorem ve_callB {x : Str} {id : String} {sem : List D → Option D} (hc : BQ X C (.builtin id) sem) (hg : Gl X x) (hm : X.mg x = none) (hv : bootBuiltins x = some (.builtin id)) (ha : VA X C W (e :: es) ms) (hn : x ≠ "__name__" := by decide) (hdb : (x == ("__debug__" : Str)) = false := by decide)
    (he : starEach (e :: es) X.env = (false, eval e X.env) :: starEach es X.env := by rfl) (hpl : (backTo pos (starEach es X.env)).any (·.1) = false := by rfl) : VE X C W (.Call (.Name x p) (e :: es) [] pos) (vCB sem ms) :=
  wkE (pe_callB hc hg hm hv ha hn hdb he hpl) fun σ H Q h => cbV_rd h
theorem ve_callTy {x : Str} {T : String} {sem : List D → Option D} (hc : BQ X C (.type T) sem) (hg : Gl X x) (hm : X.mg x = none) (hv : bootBuiltins x = some (.type T)) (ha : VA X C W (e :: es) ms) (hn : x ≠ "__name__" := by decide) (hdb : (x == ("__debug__" : Str)) = false := by decide)
    (he : starEach (e :: es) X.env = (false, eval e X.env) :: starEach es X.env := by rfl) (hpl : (backTo pos (starEach es X.env)).any (·.1) = false := by rfl) : VE X C W (.Call (.Name x p) (e :: es) [] pos) (vCB sem ms) :=
  wkE (pe_callTy hc hg hm hv ha hn hdb he hpl) fun σ H Q h => cbV_rd h
theorem vf_callB {x : Str} {id : String} {sem : List D → Option (List D)} (hc : BF X C (.builtin id) sem) (hg : Gl X x) (hm : X.mg x = none) (hv : bootBuiltins x = some (.builtin id)) (ha : VA X C W (e :: es) ms) (hn : x ≠ "__name__" := by decide) (hdb : (x == ("__debug__" : Str)) = false := by decide)
    (he : starEach (e :: es) X.env = (false, eval e X.env) :: starEach es X.env := by rfl) (hpl : (backTo pos (starEach es X.env)).any (·.1) = false := by rfl) : VF X C W (.Call (.Name x p) (e :: es) [] pos) (vCF sem ms) :=
  wkE (pe_callB hc hg hm hv ha hn hdb he hpl) fun σ H Q h => cfV_rd h
theorem vf_callTy {x : Str} {T : String} {sem : List D → Option (List D)} (hc : BF X C (.type T) sem) (hg : Gl X x) (hm : X.mg x = none) (hv : bootBuiltins x = some (.type T)) (ha : VA X C W (e :: es) ms) (hn : x ≠ "__name__" := by decide) (hdb : (x == ("__debug__" : Str)) = false := by decide)
    (he : starEach (e :: es) X.env = (false, eval e X.env) :: starEach es X.env := by rfl) (hpl : (backTo pos (starEach es X.env)).any (·.1) = false := by rfl) : VF X C W (.Call (.Name x p) (e :: es) [] pos) (vCF sem ms) :=
  wkE (pe_callTy hc hg hm hv ha hn hdb he hpl) fun σ H Q h => cfV_rd h
def vTup (ms : Rho → Res (List D)) : Rho → Res D := fun ρ => bindR (ms ρ) fun ds ρ1 => .ok (.tup ds) ρ1
theorem ve_tup {x1} (ha : VA X C W es ms) (hn : ∀ ρ ds ρ', ms ρ = .ok ds ρ' → ds.length ≤ 1000) : VE X C W (.Tuple es x1 pos) (vTup ms) :=
  wkE (pe_tup ha) fun σ H Q ⟨A, α, ρ, sr, q⟩ => by
    refine ⟨A, α, ρ, sr, ?_⟩
    unfold vTup at q
    cases h1 : ms ρ with
    | bad => rw [h1] at q; exact q.elim
    | ex c p ρ' => rw [h1] at q; exact q
    | ok ds ρ1 =>
      rw [h1] at q
      exact fun α1 vs H1 s1 t1 r1 => ⟨by rw [← r1.length]; exact line1000 (hn _ _ _ h1), fun p hp => q α1 _ _ (s1.grow (Gro.new hp)) (t1.trans (Stp.of_gro (Gro.new hp))) (repNewT hp r1)⟩
theorem vf_lst (ha : VA X C W es ms) (hn : ∀ ρ ds ρ', ms ρ = .ok ds ρ' → ds.length ≤ 1000) : VF X C W (.List es pos) ms :=
  wkE (pe_lst ha) fun σ H Q ⟨A, α, ρ, sr, q⟩ => by
    refine ⟨A, α, ρ, sr, ?_⟩
    cases h1 : ms ρ with
    | bad => rw [h1] at q; exact q.elim
    | ex c p ρ' => rw [h1] at q; exact q
    | ok ds ρ1 =>
      rw [h1] at q
      exact fun α1 vs H1 s1 t1 r1 => ⟨by rw [← r1.length]; exact line1000 (hn _ _ _ h1), fun p hp => q α1 p vs _ (s1.addA hp (Gro.new hp) upd_same (NT.lst _)).1 (t1.trans (Stp.of_gro (Gro.new hp))) (t1.nn _ hp) upd_same ((r1.mv (mvNew hp)).mv (Mv.weak fb_ad))⟩
theorem mLe {n : Nat} {ms : Rho → Res (List D)} (h : ∀ ρ ds ρ', ms ρ = .ok ds ρ' → ds.length = n) (hn : n ≤ 1000 := by decide) : ∀ ρ ds ρ', ms ρ = .ok ds ρ' → ds.length ≤ 1000 := fun ρ ds ρ' e => by rw [h ρ ds ρ' e]; exact hn
/-! ### slices -/
def rdVP (K : PySem.W.Frag) (C : Ctx) (W : WX) (m : Rho → Res (Option Int)) : TO := fun σ H Q => ∃ A α ρ, SR K C A α ρ σ H ∧ match m ρ with
  | .ok i ρ' => ∀ α' H', SR K C A α' ρ' σ H' → Stp C α H α' H' → Q i H'
  | .ex c p ρ' => ∀ α' o H', SR K C A α' ρ' σ H' → Stp C α H α' H' → XR K C (Fb A α') H' c p o → W (C.cls c) o σ H'
  | .bad => False
abbrev VP (X : Cx) (C : Ctx) (W : WX) (e : Option Expr) (m : Rho → Res (Option Int)) : Prop := PO X e (rdVP X.K C W m)
def mPN : Rho → Res (Option Int) := fun ρ => .ok none ρ
def mPS (m : Rho → Res D) : Rho → Res (Option Int) := fun ρ => bindR (m ρ) fun d ρ1 => optR ((intO d).map some) ρ1
theorem vp_none : VP X C W none mPN := wkP po_none fun σ H Q ⟨A, α, ρ, sr, q⟩ => q α H sr Stp.refl
theorem vp_some (ha : VE X C W a m) : VP X C W (some a) (mPS m) := wkP (po_some ha) fun σ H Q ⟨A, α, ρ, sr, q⟩ => by
  refine ⟨A, α, ρ, sr, ?_⟩
  unfold mPS at q
  cases h1 : m ρ with
  | bad => rw [h1] at q; exact q.elim
  | ex c p ρ' => rw [h1] at q; exact q
  | ok d ρ1 =>
    rw [h1] at q
    simp only [bindR, optR] at q
    intro α1 v H1 s1 t1 r1
    cases h2 : intO d with
    | none => rw [h2] at q; exact q.elim
    | some i =>
      rw [h2] at q
      rw [intO_some h2] at r1
      cases r1
      exact ⟨i, rfl, q α1 H1 s1 t1⟩
def vSlL (m : Rho → Res D) (pl ph : Rho → Res (Option Int)) : Rho → Res (List D) := fun ρ => bindR (m ρ) fun d ρ1 => bindR (pl ρ1) fun l ρ2 => bindR (ph ρ2) fun h ρ3 => optR ((lstI d).map fun xs => cutD xs l h) ρ3
theorem vf_slL {lo hi : Option Expr} {p2 : Pos} {pl ph : Rho → Res (Option Int)} (ha : VE X C W a m) (hl : VP X C W lo pl) (hh : VP X C W hi ph) : VF X C W (.Subscript a (.Slice lo hi none p2) pos) (vSlL m pl ph) :=
  wkE (pe_slice sl_list ha hl hh) fun σ H Q ⟨A, α, ρ, sr, q⟩ => by
    refine ⟨A, α, ρ, sr, ?_⟩
    unfold vSlL at q
    cases h1 : m ρ with
    | bad => rw [h1] at q; exact q.elim
    | ex c p ρ' => rw [h1] at q; exact q
    | ok d ρ1 =>
      rw [h1] at q
      simp only [bindR] at q
      intro α1 v H1 s1 t1 r1
      refine ⟨A, α1, ρ1, s1, ?_⟩
      cases h2 : pl ρ1 with
      | bad => rw [h2] at q; exact q.elim
      | ex c p ρ' => rw [h2] at q; exact fun α2 o H2 s2 t2 x => q α2 o H2 s2 (t1.trans t2) x
      | ok l ρ2 =>
        rw [h2] at q
        simp only [bindR] at q
        intro α2 H2 s2 t2
        refine ⟨A, α2, ρ2, s2, ?_⟩
        cases h3 : ph ρ2 with
        | bad => rw [h3] at q; exact q.elim
        | ex c p ρ' => rw [h3] at q; exact fun α3 o H3 s3 t3 x => q α3 o H3 s3 ((t1.trans t2).trans t3) x
        | ok h ρ3 =>
          rw [h3] at q
          simp only [bindR, optR] at q
          intro α3 H3 s3 t3
          cases h4 : lstI d with
          | none => rw [h4] at q; exact q.elim
          | some xs =>
            rw [h4] at q
            rw [lstI_some h4] at r1
            obtain ⟨b, ws, rfl, lr, p⟩ := ((r1.mv t2.mv).mv t3.mv).lstI
            refine ⟨b, ws, rfl, lr.sq, fun n hn => q α3 n _ _ (s3.addA hn (Gro.new hn) upd_same (NT.lst _)).1 (((t1.trans t2).trans t3).trans (Stp.of_gro (Gro.new hn))) (t1.nn _ (t2.nn _ (t3.nn _ hn))) upd_same (((cut_rep p).mv (mvNew hn)).mv (Mv.weak fb_ad))⟩
/-! ### tests -/
def PostT (K : PySem.W.Frag) (C : Ctx) (W : WX) (A : Addr → Prop) (α : Nat → Option Addr) (σ : L2.St) (H : Hp) (Q : Bool → Hp → Prop) : Res Bool → Prop
  | .ok b ρ' => ∀ α' H', SR K C A α' ρ' σ H' → Stp C α H α' H' → Q b H'
  | .ex c p ρ' => ∀ α' o H', SR K C A α' ρ' σ H' → Stp C α H α' H' → XR K C (Fb A α') H' c p o → W (C.cls c) o σ H'
  | .bad => False
theorem PostT.step {K : PySem.W.Frag} {A : Addr → Prop} {α α' : Nat → Option Addr} {σ : L2.St} {H H' : Hp} {Q : Bool → Hp → Prop} (s : Stp C α H α' H') : ∀ {r : Res Bool}, PostT K C W A α σ H Q r → PostT K C W A α' σ H' Q r
  | .ok _ _, h => fun β H2 sr t => h β H2 sr (s.trans t)
  | .ex _ _ _, h => fun β o H2 sr t r => h β o H2 sr (s.trans t) r
  | .bad, h => h
def rdVT (K : PySem.W.Frag) (C : Ctx) (W : WX) (m : Rho → Res Bool) : TT := fun σ H Q => ∃ A α ρ, SR K C A α ρ σ H ∧ PostT K C W A α σ H Q (m ρ)
end
abbrev VT (X : Cx) (C : Ctx) (W : WX) (e : Expr) (m : Rho → Res Bool) : Prop := PT X e (rdVT X.K C W m)
abbrev VW (X : Cx) (C : Ctx) (W : WX) (e : Expr) (m : Rho → Res Bool) : Prop := PW X e (rdVT X.K C W m)
def liftT (f : Rho → Option Bool) : Rho → Res Bool := fun ρ => optR (f ρ) ρ
def mV (m : Rho → Res D) : Rho → Res Bool := fun ρ => bindR (m ρ) fun d ρ1 => optR (blO d) ρ1
def mAn (s t : Rho → Res Bool) : Rho → Res Bool := fun ρ => bindR (s ρ) fun b ρ1 => if b then t ρ1 else .ok false ρ1
def mOn (s t : Rho → Res Bool) : Rho → Res Bool := fun ρ => bindR (s ρ) fun b ρ1 => if b then .ok true ρ1 else t ρ1
def mNo (s : Rho → Res Bool) : Rho → Res Bool := fun ρ => bindR (s ρ) fun b ρ1 => .ok (!b) ρ1
section
variable {X : Cx} {C : Ctx} {W : WX} {e a b c : Expr} {es rest : List Expr} {pos p : Pos} {fa fb f : Rho → Option D} {m ma mb mc : Rho → Res D} {ms : Rho → Res (List D)} {fs : Rho → Option (List D)} {s t : Rho → Res Bool}
theorem vt_q {f : Rho → Option Bool} (h : QT X C e f) : VT X C W e (liftT f) := wkT h fun σ H Q ⟨A, α, ρ, sr, q⟩ => by
  unfold liftT optR at q
  cases hf : f ρ with
  | none => rw [hf] at q; exact q.elim
  | some b =>
    rw [hf] at q
    exact ⟨A, α, ρ, b, sr, hf, fun H1 g => q α H1 (sr.grow g) (Stp.of_gro g)⟩
theorem vt_rd {σ : L2.St} {H : Hp} {Q : Bool → Hp → Prop} (h : rdVT X.K C W (mV m) σ H Q) : rdV X.K C W m σ H (fun x H' => ∃ k, x = .bl k ∧ Q k H') := by
  obtain ⟨A, α, ρ, sr, q⟩ := h
  refine ⟨A, α, ρ, sr, ?_⟩
  unfold mV at q
  cases h1 : m ρ with
  | bad => rw [h1] at q; exact q.elim
  | ex c p ρ' => rw [h1] at q; exact q
  | ok d ρ1 =>
    rw [h1] at q
    simp only [bindR, optR] at q
    intro α1 v H1 s1 t1 r1
    cases h2 : blO d with
    | none => rw [h2] at q; exact q.elim
    | some k =>
      rw [h2] at q
      rw [blO_some h2] at r1
      cases r1
      exact ⟨k, rfl, q α1 H1 s1 t1⟩
theorem vt_val (h : VE X C W e m) (he : ∀ whole, isTrue e X.env whole = (do let v ← whole; standAt e.pos; holding [v] (truthy v)) := by intro _; rfl) : VT X C W e (mV m) := wkT (pt_val h he) fun σ H Q h => vt_rd h
theorem vt_cmp {op : CmpOp} {sem : O2} (ho : OpQ X C (compareOp op) sem) (ha : VE X C W a ma) (hb : VE X C W b mb) (hm : behindInMarks op b = false) : VT X C W (.Compare a [op] [b] pos) (mV (v2 sem ma mb)) :=
  wkT (pt_cmpR ho ha hb hm) fun σ H Q h => opV_rd (vt_rd h)
theorem vw_and1 (h : VT X C W a s) : VW X C W (.BoolOp .And [a] pos) s := pw_and1 h
theorem vw_or1 (h : VT X C W a s) : VW X C W (.BoolOp .Or [a] pos) s := pw_or1 h
theorem vt_w (h : VW X C W a s) : VT X C W a s := h.pt
theorem vw_and (ha : VT X C W a s) (hb : VW X C W (.BoolOp .And (b :: rest) pos) t) : VW X C W (.BoolOp .And (a :: b :: rest) pos) (mAn s t) :=
  wkW (pw_and ha hb) fun σ H Q ⟨A, α, ρ, sr, q⟩ => by
    refine ⟨A, α, ρ, sr, ?_⟩
    unfold mAn at q
    cases h1 : s ρ with
    | bad => rw [h1] at q; exact q.elim
    | ex c p ρ' => rw [h1] at q; exact q
    | ok d ρ1 =>
      rw [h1] at q
      simp only [bindR] at q
      intro α1 H1 s1 t1
      cases d with
      | true => exact ⟨A, α1, ρ1, s1, q.step t1⟩
      | false => exact q α1 H1 s1 t1
theorem vw_or (ha : VT X C W a s) (hb : VW X C W (.BoolOp .Or (b :: rest) pos) t) : VW X C W (.BoolOp .Or (a :: b :: rest) pos) (mOn s t) :=
  wkW (pw_or ha hb) fun σ H Q ⟨A, α, ρ, sr, q⟩ => by
    refine ⟨A, α, ρ, sr, ?_⟩
    unfold mOn at q
    cases h1 : s ρ with
    | bad => rw [h1] at q; exact q.elim
    | ex c p ρ' => rw [h1] at q; exact q
    | ok d ρ1 =>
      rw [h1] at q
      simp only [bindR] at q
      intro α1 H1 s1 t1
      cases d with
      | false => exact ⟨A, α1, ρ1, s1, q.step t1⟩
      | true => exact q α1 H1 s1 t1
theorem vt_not (h : VT X C W a s) : VT X C W (.UnaryOp .Not a pos) (mNo s) :=
  wkT (pt_not h) fun σ H Q ⟨A, α, ρ, sr, q⟩ => by
    refine ⟨A, α, ρ, sr, ?_⟩
    unfold mNo at q
    cases h1 : s ρ with
    | bad => rw [h1] at q; exact q.elim
    | ex c p ρ' => rw [h1] at q; exact q
    | ok d ρ1 =>
      rw [h1] at q
      exact fun α1 H1 s1 t1 => q α1 H1 s1 t1
def vIf (s : Rho → Res Bool) (ma mb : Rho → Res D) : Rho → Res D := fun ρ => bindR (s ρ) fun k ρ1 => if k then ma ρ1 else mb ρ1
theorem ve_if (hc : VT X C W c s) (ha : VE X C W a ma) (hb : VE X C W b mb) : VE X C W (.IfExp c a b pos) (vIf s ma mb) :=
  wkE (pe_ifExp hc ha hb) fun σ H Q ⟨A, α, ρ, sr, q⟩ => by
    refine ⟨A, α, ρ, sr, ?_⟩
    unfold vIf at q
    cases h1 : s ρ with
    | bad => rw [h1] at q; exact q.elim
    | ex c p ρ' => rw [h1] at q; exact q
    | ok d ρ1 =>
      rw [h1] at q
      simp only [bindR] at q
      intro α1 H1 s1 t1
      cases d with
      | true => exact ⟨A, α1, ρ1, s1, q.step t1⟩
      | false => exact ⟨A, α1, ρ1, s1, q.step t1⟩
def vAnd (ma mb : Rho → Res D) : Rho → Res D := fun ρ => bindR (mV ma ρ) fun k ρ1 => if k then mb ρ1 else .ok (.bl false) ρ1
def vOr (ma mb : Rho → Res D) : Rho → Res D := fun ρ => bindR (mV ma ρ) fun k ρ1 => if k then .ok (.bl true) ρ1 else mb ρ1
theorem ve_and {rest : List Expr} (ha : VE X C W a ma) (hb : VE X C W (.BoolOp .And (b :: rest) pos) mb) : VE X C W (.BoolOp .And (a :: b :: rest) pos) (vAnd ma mb) :=
  wkE (pe_and ha hb) fun σ H Q ⟨A, α, ρ, sr, q⟩ => by
    refine vt_rd ⟨A, α, ρ, sr, ?_⟩
    unfold vAnd at q
    cases h1 : mV ma ρ with
    | bad => rw [h1] at q; exact q.elim
    | ex c p ρ' => rw [h1] at q; exact q
    | ok d ρ1 =>
      rw [h1] at q
      simp only [bindR] at q
      intro α1 H1 s1 t1
      cases d with
      | true => exact ⟨A, α1, ρ1, s1, q.step t1⟩
      | false => exact q α1 _ H1 s1 t1 (.bl _)
theorem ve_or {rest : List Expr} (ha : VE X C W a ma) (hb : VE X C W (.BoolOp .Or (b :: rest) pos) mb) : VE X C W (.BoolOp .Or (a :: b :: rest) pos) (vOr ma mb) :=
  wkE (pe_or ha hb) fun σ H Q ⟨A, α, ρ, sr, q⟩ => by
    refine vt_rd ⟨A, α, ρ, sr, ?_⟩
    unfold vOr at q
    cases h1 : mV ma ρ with
    | bad => rw [h1] at q; exact q.elim
    | ex c p ρ' => rw [h1] at q; exact q
    | ok d ρ1 =>
      rw [h1] at q
      simp only [bindR] at q
      intro α1 H1 s1 t1
      cases d with
      | false => exact ⟨A, α1, ρ1, s1, q.step t1⟩
      | true => exact q α1 _ H1 s1 t1 (.bl _)
theorem ve_one {op} (h : VE X C W a m) : VE X C W (.BoolOp op [a] pos) m := pe_one h
/-! ### if, loops -/
variable {st : Stmt} {fS gS : Rho → SRes}
def sIfV (s : Rho → Res Bool) (f g : Rho → SRes) : Rho → SRes := fun ρ => match s ρ with
  | .ok b ρ1 => if b then f ρ1 else g ρ1
  | .ex c p ρ' => .ex c p ρ'
  | .bad => .bad
theorem qs_ifV {a b : List Stmt} (hc : VT X C W c s) (ha : QSs X C W a fS) (hb : QSs X C W b gS) : QS X C W (.If c a b pos) (sIfV s fS gS) :=
  wkS (ps_if hc ha hb) fun Dn σ H ⟨A, α, ρ, sr, q⟩ => by
    refine ⟨A, α, ρ, sr, ?_⟩
    unfold sIfV at q
    cases h1 : s ρ with
    | bad => rw [h1] at q; exact q.elim
    | ex c p ρ' => rw [h1] at q; exact fun α' o H' s t x => q α' σ o H' s t x
    | ok d ρ1 =>
      rw [h1] at q
      intro α1 H1 s1 t1
      cases d with
      | true => exact ⟨A, α1, ρ1, s1, PostS.step t1 q⟩
      | false => exact ⟨A, α1, ρ1, s1, PostS.step t1 q⟩
/-- what is walked, by an expression that may change owned lists -/
def rdVI (K : PySem.W.Frag) (C : Ctx) (W : WX) (m : Rho → Res (List D)) : TI := fun σ H R => ∃ A α ρ, SR K C A α ρ σ H ∧ match m ρ with
  | .ok xs ρ' => ∀ α' J H', SR K C A α' ρ' σ H' → Stp C α H α' H' → ItR K C J (Fb A α') H' xs → R J H'
  | .ex c p ρ' => ∀ α' o H', SR K C A α' ρ' σ H' → Stp C α H α' H' → XR K C (Fb A α') H' c p o → W (C.cls c) o σ H'
  | .bad => False
end
abbrev VI (X : Cx) (C : Ctx) (W : WX) (tg e : Expr) (m : Rho → Res (List D)) : Prop := PI X tg e (rdVI X.K C W m)
section
variable {X : Cx} {C : Ctx} {W : WX} {tg e a b c : Expr} {es rest : List Expr} {pos p : Pos} {fa fb f : Rho → Option D} {m ma mb mc : Rho → Res D} {ms mi : Rho → Res (List D)} {fs : Rho → Option (List D)} {s t : Rho → Res Bool} {g : D → Rho → Option Rho} {vs : List Nat} {fS gS : Rho → SRes}
theorem vi_q (h : QI X C tg e fs) : VI X C W tg e (liftF fs) := wkI h fun σ H Q ⟨A, α, ρ, sr, q⟩ => by
  unfold liftF at q
  cases hf : fs ρ with
  | none => rw [hf] at q; exact q.elim
  | some xs =>
    rw [hf] at q
    exact ⟨A, α, ρ, xs, sr, hf, fun J H1 g it => q α J H1 (sr.grow g) (Stp.of_gro g) it⟩
def mI (m : Rho → Res D) : Rho → Res (List D) := fun ρ => bindR (m ρ) fun d ρ1 => optR (itemsD d) ρ1
theorem vi_seq (h : VE X C W e m) : VI X C W tg e (mI m) :=
  wkI (pi_or (pi_list h) (pi_tup h)) fun σ H Q ⟨A, α, ρ, sr, q⟩ => by
    unfold mI at q
    cases h1 : m ρ with
    | bad => rw [h1] at q; exact q.elim
    | ex c p ρ' =>
      rw [h1] at q
      exact .inl ⟨A, α, ρ, sr, by rw [h1]; exact q⟩
    | ok d ρ1 =>
      rw [h1] at q
      simp only [bindR, optR] at q
      cases d with
      | lst ys =>
        refine .inl ⟨A, α, ρ, sr, ?_⟩
        rw [h1]
        intro α1 v H1 s1 t1 r1
        obtain ⟨a, vs, rfl, l, r⟩ := r1.lstI
        exact ⟨a, rfl, ⟨vs, l.sq⟩, q α1 _ H1 s1 t1 (itr_list l r)⟩
      | tup ys =>
        refine .inr ⟨A, α, ρ, sr, ?_⟩
        rw [h1]
        intro α1 v H1 s1 t1 r1
        obtain ⟨a, vs, rfl, l, r⟩ := r1.tupI
        exact ⟨a, rfl, ⟨vs, l⟩, q α1 _ H1 s1 t1 (itr_tup l r)⟩
      | tupx ys =>
        refine .inr ⟨A, α, ρ, sr, ?_⟩
        rw [h1]
        intro α1 v H1 s1 t1 r1
        obtain ⟨a, vs, rfl, l, r, _⟩ := r1.tupxI
        exact ⟨a, rfl, ⟨vs, l⟩, q α1 _ H1 s1 t1 (itr_tup l r)⟩
      | _ => exact q.elim
def forS (g : D → Rho → Option Rho) (b : Rho → SRes) : List D → Rho → SRes
  | [], ρ => .nx ρ
  | x :: xs, ρ => match g x ρ with
    | some ρ1 => (match b ρ1 with
      | .nx ρ2 => forS g b xs ρ2
      | .ct ρ2 => forS g b xs ρ2
      | .bk ρ2 => .nx ρ2
      | r => r)
    | none => .bad
def sFor (mi : Rho → Res (List D)) (g : D → Rho → Option Rho) (b : Rho → SRes) : Rho → SRes := fun ρ => match mi ρ with
  | .ok xs ρ1 => forS g b xs ρ1
  | .ex c p ρ' => .ex c p ρ'
  | .bad => .bad
theorem ItR.step {K : PySem.W.Frag} {A : Addr → Prop} {J : It} {α α' : Nat → Option Addr} {H H' : Hp} {xs : List D} (h : ItR K C J (Fb A α) H xs) (t : Stp C α H α' H') : ItR K C J (Fb A α') H' xs := h.mv t.mv
theorem qs_for {body : List Stmt} (hp : PassesOwn (model X.prog X.w) X.A X.env X.xe) (hc : X.calm = true) (hi : VI X C W tg e mi) (hg : QG X C vs tg g) (hb : QSs X C W body fS)
    (hs : ∀ x, foldedSetIterable e X.env x = pure x := by intro _; rfl) : QS X C W (.For tg e body [] pos) (sFor mi g fS) :=
  wkS (ps_for hp hc hi hg hb hs) fun Dn σ H ⟨A, α, ρ, sr, q⟩ => by
    refine ⟨A, α, ρ, sr, ?_⟩
    unfold sFor at q
    cases h1 : mi ρ with
    | bad => rw [h1] at q; exact q.elim
    | ex c p ρ' => rw [h1] at q; exact fun α' o H' s t x => q α' σ o H' s t x
    | ok xs ρ1 =>
      rw [h1] at q
      intro α1 J H1 s1 t1 it
      refine ⟨fun i m σ H2 => m = xs.length - i ∧ i ≤ xs.length ∧ ∃ α2 ρ2, SR X.K C A α2 ρ2 σ H2 ∧ Stp C α1 H1 α2 H2 ∧ PostS X.K C W A α2 H2 Dn (forS g fS (xs.drop i) ρ2), ⟨xs.length, by omega, Nat.zero_le _, α1, ρ1, s1, Stp.refl, by rw [List.drop_zero]; exact PostS.step t1 q⟩, fun i m σ2 H2 hW => ?_⟩
      obtain ⟨rfl, hi, α2, ρ2, s2, t2, q2⟩ := hW
      obtain ⟨go, stop⟩ := (it.step t2) _ _ Mv.refl
      by_cases hlt : i < xs.length
      · have ex : xs[i]? = some xs[i] := List.getElem?_eq_getElem hlt
        obtain ⟨hgo, hy⟩ := go i _ ex
        rw [drop_at ex] at q2
        unfold forS at q2
        refine .inr ⟨hgo, fun σ' H' => ∃ m', m' < xs.length - i ∧ (m' = xs.length - (i + 1) ∧ i + 1 ≤ xs.length ∧ ∃ α2 ρ2, SR X.K C A α2 ρ2 σ' H' ∧ Stp C α1 H1 α2 H' ∧ PostS X.K C W A α2 H' Dn (forS g fS (xs.drop (i + 1)) ρ2)), fun σ' H' hN => hN, fun v H3 y => ?_⟩
        obtain ⟨g3, rx⟩ := hy v H3 y
        cases hg2 : g xs[i] ρ2 with
        | none => simp only [hg2] at q2; exact q2.elim
        | some ρ3 =>
          simp only [hg2] at q2
          refine ⟨A, α2, ρ2, _, ρ3, s2.grow g3, rx, hg2, fun σ' s4 k4 l4 => ⟨A, α2, ρ3, s4, ?_⟩⟩
          have t3 : Stp C α1 H1 α2 H3 := t2.trans (Stp.of_gro g3)
          have q3 := PostS.step (Stp.of_gro (α := α2) g3) q2
          cases hb2 : fS ρ3 with
          | nx ρ5 =>
            simp only [hb2] at q3
            exact fun α5 σ5 H5 s5 t5 => ⟨xs.length - (i + 1), by omega, rfl, hlt, α5, ρ5, s5, t3.trans t5, PostS.step t5 q3⟩
          | ct ρ5 =>
            simp only [hb2] at q3
            exact fun α5 σ5 H5 s5 t5 => ⟨xs.length - (i + 1), by omega, rfl, hlt, α5, ρ5, s5, t3.trans t5, PostS.step t5 q3⟩
          | bk ρ5 => simp only [hb2] at q3; exact q3
          | rt d ρ5 => simp only [hb2] at q3; exact q3
          | ex c p ρ5 => simp only [hb2] at q3; exact q3
          | bad => simp only [hb2] at q3; exact q3.elim
      · have hd : xs.drop i = [] := List.drop_eq_nil_of_le (by omega)
        rw [hd] at q2
        exact .inl ⟨stop i (by omega), q2 α2 σ2 H2 s2 Stp.refl⟩
/-- a loop by fuel -/
def whileS (t : Rho → Res Bool) (b : Rho → SRes) : Nat → Rho → SRes
  | 0, _ => .bad
  | n + 1, ρ => match t ρ with
    | .ok true ρ1 => (match b ρ1 with
      | .nx ρ2 => whileS t b n ρ2
      | .ct ρ2 => whileS t b n ρ2
      | .bk ρ2 => .nx ρ2
      | r => r)
    | .ok false ρ1 => .nx ρ1
    | .ex c p ρ' => .ex c p ρ'
    | .bad => .bad
def sWhile (n : Nat) (t : Rho → Res Bool) (b : Rho → SRes) : Rho → SRes := whileS t b n
theorem qs_while (n : Nat) {body : List Stmt} (hp : PassesOwn (model X.prog X.w) X.A X.env X.xe) (hc : VT X C W c t) (hb : QSs X C W body fS) : QS X C W (.While c body [] pos) (sWhile n t fS) :=
  wkS (ps_while hp hc hb) fun Dn σ H ⟨A, α, ρ, sr, q⟩ => by
    refine ⟨fun m σ H2 => ∃ α2 ρ2, SR X.K C A α2 ρ2 σ H2 ∧ PostS X.K C W A α2 H2 Dn (whileS t fS m ρ2), ⟨n, α, ρ, sr, q⟩, fun m σ2 H2 hW => ?_⟩
    obtain ⟨α2, ρ2, s2, q2⟩ := hW
    refine ⟨A, α2, ρ2, s2, ?_⟩
    cases m with
    | zero => exact q2.elim
    | succ m =>
      unfold whileS at q2
      cases h1 : t ρ2 with
      | bad => simp only [h1] at q2; exact q2.elim
      | ex c p ρ' => simp only [h1] at q2; exact fun α' o H' s t x => q2 α' σ2 o H' s t x
      | ok k ρ3 =>
        intro α3 H3 s3 t3
        cases k with
        | false =>
          simp only [h1] at q2
          exact q2 α3 σ2 H3 s3 t3
        | true =>
          simp only [h1] at q2
          refine (if_pos rfl).mpr ⟨fun σ' H' => ∃ m', m' < m + 1 ∧ ∃ α2 ρ2, SR X.K C A α2 ρ2 σ' H' ∧ PostS X.K C W A α2 H' Dn (whileS t fS m' ρ2), fun σ' H' h => h, A, α3, ρ3, s3, ?_⟩
          have q3 := PostS.step t3 q2
          cases hb2 : fS ρ3 with
          | nx ρ5 => simp only [hb2] at q3; exact fun α5 σ5 H5 s5 t5 => ⟨m, Nat.lt_succ_self _, α5, ρ5, s5, PostS.step t5 q3⟩
          | ct ρ5 => simp only [hb2] at q3; exact fun α5 σ5 H5 s5 t5 => ⟨m, Nat.lt_succ_self _, α5, ρ5, s5, PostS.step t5 q3⟩
          | bk ρ5 => simp only [hb2] at q3; exact q3
          | rt d ρ5 => simp only [hb2] at q3; exact q3
          | ex c p ρ5 => simp only [hb2] at q3; exact q3
          | bad => simp only [hb2] at q3; exact q3.elim
end
end VL
end
section
set_option Elab.async false
set_option linter.all false
set_option maxRecDepth 100000
set_option maxHeartbeats 2000000
/-! VL9: items stored, names stored by an operator, two clauses in a comprehension, comprehensions whose elements may change owned lists. -/
namespace VL
open PySem PySem.Spec L2
open PyProof.Rows hiding St
section
variable {X : Cx} {C : Ctx} {W : WX} {tg e a b c : Expr} {es rest : List Expr} {pos p : Pos} {fa fb f : Rho → Option D} {m ma mb mc : Rho → Res D} {ms mi : Rho → Res (List D)} {fs : Rho → Option (List D)} {s t : Rho → Res Bool} {g : D → Rho → Option Rho} {vs : List Nat} {fS gS : Rho → SRes}
/-- own[k] = e -/
def sIx (i : Nat) (m mk : Rho → Res D) : Rho → SRes := fun ρ => match m ρ with
  | .ok d ρ1 => (match ownAt ρ1 i with
    | some _ => (match mk ρ1 with
      | .ok k ρ2 => (match intO k with
        | some k => (match ownAt ρ2 i with
          | some ds => (match ixN ds.length k with
            | some j => .nx (ρ2.set i (.o (ds.set j d)))
            | none => .bad)
          | none => .bad)
        | none => .bad)
      | .ex c p ρ' => .ex c p ρ'
      | .bad => .bad)
    | none => .bad)
  | .ex c p ρ' => .ex c p ρ'
  | .bad => .bad
theorem qs_ix {i : Nat} {x : Str} {p1 p2 : Pos} {ix : Expr} {mk : Rho → Res D} (hN : X.N[i]? = some x) (hv : Vis X.env.scope x) (he : VE X C W e m) (hk : VE X C W ix mk) (hd : (x == ("__debug__" : Str)) = false := by decide) (hcd : (x == ("__classdict__" : Str)) = false := by decide)
    (hs : swapsWithSole [.Subscript (.Name x p1) ix p2] e pos.line X.env = pure false := by rfl) (hw : swappedStores [.Subscript (.Name x p1) ix p2] e X.env = pure none := by rfl)
    (h1 : (assignEach [.Subscript (.Name x p1) ix p2] X.env).map (·.2) = [assign (.Subscript (.Name x p1) ix p2) X.env] := by rfl)
    (ha : ∀ v, assign (.Subscript (.Name x p1) ix p2) X.env v = (do
      let ov ← holding [v] (eval (.Name x p1) X.env)
      let iv ← holding [v, ov] (eval ix X.env)
      standAt p2
      holding [v, ov, iv] (setItem ov iv v)
      release [v, ov, iv] []) := by intro _; rfl) :
    QS X C W (.Assign [.Subscript (.Name x p1) ix p2] e pos) (sIx i m mk) :=
  wkS (ps_asg he (pg_sub (pe_var (i := i) hN hv hd hcd) hk set_list ha) hs hw h1) fun Dn σ H ⟨A, α, ρ, sr, q⟩ => by
    refine ⟨A, α, ρ, sr, ?_⟩
    unfold sIx at q
    cases h1 : m ρ with
    | bad => simp only [h1] at q; exact q.elim
    | ex c p ρ' => simp only [h1] at q; exact fun α' o H' s t x => q α' σ o H' s t x
    | ok d ρ1 =>
      simp only [h1] at q
      intro α1 v H1 s1 t1 r1
      cases h3 : ownAt ρ1 i with
      | none => simp only [h3] at q; exact q.elim
      | some ds1 =>
        simp only [h3] at q
        have h3 := ownAt_some h3
        obtain ⟨l1, vs1, al1, sl1, hl1, hr1⟩ := s1.slot h3
        refine ⟨.ref l1, sl1, A, α1, ρ1, s1, ?_⟩
        cases h2 : mk ρ1 with
        | bad => simp only [h2] at q; exact q.elim
        | ex c p ρ' => simp only [h2] at q; exact fun α' o H' s t x => q α' σ o H' s (t1.trans t) x
        | ok k ρ2 =>
          simp only [h2] at q
          intro α2 w H2 s2 t2 r2
          cases h4 : intO k with
          | none => simp only [h4] at q; exact q.elim
          | some kk =>
            simp only [h4] at q
            rw [intO_some h4] at r2
            cases r2
            cases h5 : ownAt ρ2 i with
            | none => simp only [h5] at q; exact q.elim
            | some ds =>
              simp only [h5] at q
              have h5 := ownAt_some h5
              obtain ⟨l2, vs2, al2, sl2, hl2, hr2⟩ := s2.slot h5
              obtain rfl := s1.same s2 h3 h5 al1 al2
              cases h6 : ixN ds.length kk with
              | none => simp only [h6] at q; exact q.elim
              | some j =>
                simp only [h6] at q
                obtain ⟨s3, t3⟩ := s2.write h5 al2 hl2 (hr2.set (r1.mv t2.mv) j)
                exact ⟨l1, vs2, kk, j, rfl, rfl, hl2, by rw [← hr2.length]; exact h6, q α2 σ _ s3 ((t1.trans t2).trans t3)⟩
/-- name op= e, ints -/
def sAug (i : Nat) (g : Int → Int → Int) (cond : Int → Int → Bool) (m : Rho → Res D) : Rho → SRes := fun ρ => match ρ[i]? with
  | some (.v (.int x)) => (match m ρ with
    | .ok (.int y) ρ1 => if cond x y && decide (i < ρ1.length) && notOwn ρ1[i]? then .nx (ρ1.set i (.v (.int (g x y)))) else .bad
    | .ok _ _ => .bad
    | .ex c p ρ' => .ex c p ρ'
    | .bad => .bad)
  | _ => .bad
theorem qs_aug {i : Nat} {x : Str} {op : Operator} {ti : TIp} {pos' : Pos} {gg : Int → Int → Int} {cond : Int → Int → Bool} (ho : PIp X op ti) (hti : ∀ i j H Q, cond i j = true → Q (.int (gg i j)) H → ti (.int i) (.int j) H Q) (hN : X.N.Nodup) (hi : X.N[i]? = some x) (hx : Loc X.env.scope x) (he : VE X C W e m)
    (hf : X.fn x = true ∨ X.env.scope.names.lookup x = some .local := by first | exact .inl rfl | exact .inr rfl | assumption) : QS X C W (.AugAssign (.Name x pos') op e pos) (sAug i gg cond m) :=
  wkS (ps_aug hN hi hx he ho hf) fun Dn σ H ⟨A, α, ρ, sr, q⟩ => by
    unfold sAug at q
    split at q
    · rename_i n hx1
      obtain ⟨v, e1, r⟩ := sr.var hx1
      cases r
      refine ⟨_, e1, A, α, ρ, sr, ?_⟩
      cases h1 : m ρ with
      | bad => rw [h1] at q; exact q.elim
      | ex c p ρ' => rw [h1] at q; exact fun α' o H' s t x => q α' σ o H' s t x
      | ok d ρ1 =>
        rw [h1] at q
        intro α1 v H1 s1 t1 r1
        cases d <;> first | exact q.elim | skip
        rename_i y
        cases r1
        by_cases hc : (cond n y && decide (i < ρ1.length) && notOwn ρ1[i]?) = true
        · simp only [hc, if_true] at q
          simp only [Bool.and_eq_true, decide_eq_true_eq] at hc
          refine hti n y H1 _ hc.1.1 (q α1 _ H1 (s1.setV (s1.notOwn hc.2) (.int _)) t1)
        · simp only [hc] at q
          exact q.elim
    · exact q.elim
theorem qs_augAdd {i : Nat} {x : Str} {pos' : Pos} (hN : X.N.Nodup) (hi : X.N[i]? = some x) (hx : Loc X.env.scope x) (he : VE X C W e m)
    (hf : X.fn x = true ∨ X.env.scope.names.lookup x = some .local := by first | exact .inl rfl | exact .inr rfl | assumption) : QS X C W (.AugAssign (.Name x pos') .Add e pos) (sAug i (fun i j => i + j) (fun _ _ => true) m) :=
  qs_aug ip_add (fun i j H Q _ q => ⟨i, j, rfl, rfl, q⟩) hN hi hx he hf
theorem qs_augSub {i : Nat} {x : Str} {pos' : Pos} (hN : X.N.Nodup) (hi : X.N[i]? = some x) (hx : Loc X.env.scope x) (he : VE X C W e m)
    (hf : X.fn x = true ∨ X.env.scope.names.lookup x = some .local := by first | exact .inl rfl | exact .inr rfl | assumption) : QS X C W (.AugAssign (.Name x pos') .Sub e pos) (sAug i (fun i j => i - j) (fun _ _ => true) m) :=
  qs_aug ip_sub (fun i j H Q _ q => ⟨i, j, rfl, rfl, q⟩) hN hi hx he hf
end
/-! ### two clauses -/
def comp2Q (vs1 : List Nat) (g : D → Rho → Option Rho) (t : Rho → Option Bool) (fi1 : Rho → Option (List D)) (g1 : D → Rho → Option Rho) (t1 : Rho → Option Bool) (f : Rho → Option D) (ρ : Rho) : List D → Option (List D)
  | [] => some []
  | x :: xs => (g x ρ).bind fun ρ1 => (t ρ1).bind fun b => if b then (if cleanR ρ1 vs1 then (fi1 ρ1).bind fun ys => if decide (ys.length ≤ 4096) then (compQ g1 t1 f (wipeR ρ1 vs1) ys).bind fun zs => (comp2Q vs1 g t fi1 g1 t1 f ρ xs).map fun r => zs ++ r else none else none) else comp2Q vs1 g t fi1 g1 t1 f ρ xs
def qLc2 (vs vs1 : List Nat) (fi : Rho → Option (List D)) (g : D → Rho → Option Rho) (t : Rho → Option Bool) (fi1 : Rho → Option (List D)) (g1 : D → Rho → Option Rho) (t1 : Rho → Option Bool) (f : Rho → Option D) : Rho → Option (List D) := fun ρ =>
  if cleanR ρ vs then (fi ρ).bind fun xs => if decide (xs.length ≤ 4000) then comp2Q vs1 g t fi1 g1 t1 f (wipeR ρ vs) xs else none else none
theorem compQ_len {g : D → Rho → Option Rho} {t : Rho → Option Bool} {f : Rho → Option D} {ρ : Rho} : ∀ {xs r : List D}, compQ g t f ρ xs = some r → r.length ≤ xs.length
  | [], r, h => by cases h; exact Nat.le_refl _
  | x :: xs, r, h => by
    unfold compQ at h
    obtain ⟨ρ1, h1, h2⟩ := bind_some h
    obtain ⟨b, h3, h4⟩ := bind_some h2
    cases b with
    | true =>
      rw [if_pos rfl] at h4
      obtain ⟨y, h5, h6⟩ := bind_some h4
      obtain ⟨ys, h7, rfl⟩ := map_some h6
      have := compQ_len h7
      rw [List.length_cons, List.length_cons]
      omega
    | false =>
      rw [if_neg Bool.false_ne_true] at h4
      have := compQ_len h4
      rw [List.length_cons]
      omega
section
variable {K : PySem.W.Frag} {C : Ctx} {vs vs1 : List Nat} {fi fi1 : Rho → Option (List D)} {g g1 : D → Rho → Option Rho} {t t1 : Rho → Option Bool} {f : Rho → Option D}
theorem lc2Q {σ : L2.St} {H : Hp} {Q : VK} (h : rdF K C (qLc2 vs vs1 fi g t fi1 g1 t1 f) σ H Q) : tLc2 (rdI K C fi) (rdG K C vs g) (rdT K C t) (rdI K C fi1) (rdG K C vs1 g1) (rdT K C t1) (rdQ K C f) vs vs1 σ H Q := by
  obtain ⟨A, α, ρ, ds, sr, e, q⟩ := h
  obtain ⟨hcl, e1⟩ := if_bind e
  obtain ⟨xs, e2, e3⟩ := bind_some e1
  obtain ⟨hln, e4⟩ := if_bind e3
  have hln := of_decide_eq_true hln
  refine ⟨A, α, ρ, xs, sr, e2, fun J H1 g1' itr Dn hn => ?_⟩
  -- the state between two turns of the outer loop
  let Pw : Nat → Hp → Prop := fun i H2 => i ≤ xs.length ∧ Gro C H1 H2 ∧ ∃ acc ws r, H2 Dn = some (.lst ws) ∧ RepL K C (Fb (Ad A Dn) α) H2 acc ws ∧ comp2Q vs1 g t fi1 g1 t1 f (wipeR ρ vs) (xs.drop i) = some r ∧ ds = acc ++ r ∧ acc.length ≤ i * 4096
  refine ⟨fun i m H2 => m = xs.length - i ∧ Pw i H2,
    ⟨xs.length, by omega, Nat.zero_le _, Gro.new hn, [], [], ds, upd_same, .nil, by rw [List.drop_zero]; exact e4, rfl, Nat.zero_le _⟩, fun i m H2 hW => ?_⟩
  obtain ⟨rfl, hi, g2, acc, ws, r, hD, hR, hc, hds, hal⟩ := hW
  have s1 := sr.grow g1'
  obtain ⟨s2, m2⟩ := s1.addA hn g2 hD (NT.lst _)
  have s3 := s2.wipe hcl
  obtain ⟨go, stop⟩ := itr _ _ m2
  by_cases hlt : i < xs.length
  · have ex : xs[i]? = some xs[i] := List.getElem?_eq_getElem hlt
    obtain ⟨hgo, hy⟩ := go i _ ex
    rw [drop_at ex] at hc
    unfold comp2Q at hc
    obtain ⟨ρ1, c1, c2⟩ := bind_some hc
    obtain ⟨b, c3, c4⟩ := bind_some c2
    refine .inr ⟨hgo, fun H' => ∃ m', m' < xs.length - i ∧ (m' = xs.length - (i + 1) ∧ Pw (i + 1) H'), fun H' hN => hN, fun v H3 y => ?_⟩
    obtain ⟨g3, rx⟩ := hy v H3 y
    refine ⟨_, α, wipeR ρ vs, _, ρ1, s3.grow g3, rx, c1, fun σ' s4 k4 l4 => ⟨?_, _, α, ρ1, b, s4, c3, fun H4 g4 => ?_⟩⟩
    · refine wipe_ext (by rw [l4, wipe_length]) fun j hj => ?_
      rw [k4 j hj, wipe_out hj]
    · cases b with
      | true =>
        rw [if_pos rfl] at c4
        obtain ⟨hcl1, c5⟩ := if_bind c4
        obtain ⟨ys, c6, c7⟩ := bind_some c5
        obtain ⟨hl4, c8⟩ := if_bind c7
        have hl4 := of_decide_eq_true hl4
        obtain ⟨zs, c9, c10⟩ := bind_some c8
        obtain ⟨r', c11, rfl⟩ := map_some c10
        refine (if_pos rfl).mpr ⟨_, α, ρ1, ys, s4.grow g4, c6, fun J1 H5 g5 itr1 => ?_⟩
        have g25 := g2.trans (g3.trans (g4.trans g5))
        have hD5 := (g3.trans (g4.trans g5)).kp.any hD (NT.lst _)
        have hR5 := hR.mv (g3.trans (g4.trans g5)).mv
        have s5 := s4.grow (g4.trans g5)
        -- the inner loop
        refine ⟨fun j k H6 => k = ys.length - j ∧ j ≤ ys.length ∧ Gro C H1 H6 ∧ ∃ acc1 ws1 r1, H6 Dn = some (.lst ws1) ∧ RepL K C (Fb (Ad A Dn) α) H6 acc1 ws1 ∧ compQ g1 t1 f (wipeR ρ1 vs1) (ys.drop j) = some r1 ∧ acc ++ zs = acc1 ++ r1 ∧ acc1.length ≤ i * 4096 + j ∧ SR K C (Ad A Dn) α ρ1 σ' H6 ∧ Mv (Fb (Ad A Dn) α) (Fb (Ad A Dn) α) H5 H6,
          ⟨ys.length, by omega, Nat.zero_le _, g25, acc, ws, zs, hD5, hR5, by rw [List.drop_zero]; exact c9, rfl, by omega, s5, Mv.refl⟩, fun j k H6 hW1 => ?_⟩
        obtain ⟨rfl, hj, g6, acc1, ws1, r1, hD6, hR6, hc6, hds6, hal6, s6, m6⟩ := hW1
        obtain ⟨go1, stop1⟩ := itr1 _ _ m6
        by_cases hlt1 : j < ys.length
        · have ey : ys[j]? = some ys[j] := List.getElem?_eq_getElem hlt1
          obtain ⟨hgo1, hy1⟩ := go1 j _ ey
          rw [drop_at ey] at hc6
          unfold compQ at hc6
          obtain ⟨ρ2, d1, d2⟩ := bind_some hc6
          obtain ⟨b1, d3, d4⟩ := bind_some d2
          refine .inr ⟨hgo1, fun H' => ∃ k', k' < ys.length - j ∧ (k' = ys.length - (j + 1) ∧ j + 1 ≤ ys.length ∧ Gro C H1 H' ∧ ∃ acc1 ws1 r1, H' Dn = some (.lst ws1) ∧ RepL K C (Fb (Ad A Dn) α) H' acc1 ws1 ∧ compQ g1 t1 f (wipeR ρ1 vs1) (ys.drop (j + 1)) = some r1 ∧ acc ++ zs = acc1 ++ r1 ∧ acc1.length ≤ i * 4096 + (j + 1) ∧ SR K C (Ad A Dn) α ρ1 σ' H' ∧ Mv (Fb (Ad A Dn) α) (Fb (Ad A Dn) α) H5 H'), fun H' hN => hN, fun v1 H7 y1 => ?_⟩
          obtain ⟨g7, rx1⟩ := hy1 v1 H7 y1
          have s7 := (s6.wipe hcl1).grow g7
          refine ⟨_, α, wipeR ρ1 vs1, _, ρ2, s7, rx1, d1, fun σ2 s8 k8 l8 => ⟨?_, _, α, ρ2, b1, s8, d3, fun H8 g8 => ?_⟩⟩
          · refine wipe_ext (by rw [l8, wipe_length]) fun j' hj' => ?_
            rw [k8 j' hj', wipe_out hj']
          · cases b1 with
            | true =>
              rw [if_pos rfl] at d4
              obtain ⟨y2, d5, d6⟩ := bind_some d4
              obtain ⟨ys2, d7, rfl⟩ := map_some d6
              refine (if_pos rfl).mpr ⟨_, α, ρ2, y2, s8.grow g8, d5, fun w H9 g9 r9 => ?_⟩
              have gg := g7.trans (g8.trans g9)
              have hD9 := gg.kp.any hD6 (NT.lst _)
              have hR9 := hR6.mv gg.mv
              have mu : Mv (Fb (Ad A Dn) α) (Fb (Ad A Dn) α) H9 (upd H9 Dn (.lst (ws1 ++ [w]))) := mv_upd hD9 (.inl (.inr rfl))
              have s9 := s6.grow gg
              have s10 : SR K C (Ad A Dn) α ρ1 σ' (upd H9 Dn (.lst (ws1 ++ [w]))) := by
                refine ⟨s9.len, s9.inj, s9.out, fun i' x' e' => ?_, fun a' z' => ?_, s9.na, tabs_upd s9.tabs hD9⟩
                · have q' := s9.sl i' x' e'
                  cases x' with
                  | no => exact q'
                  | v d => obtain ⟨e1, v, e2, r⟩ := q'; exact ⟨e1, v, e2, r.mv mu⟩
                  | o ds' =>
                    obtain ⟨a', vs', e1, e2, e3, r⟩ := q'
                    exact ⟨a', vs', e1, e2, by rw [upd_ne (fun z => s9.na i' a' e1 (.inr z))]; exact e3, r.mv mu⟩
                  | w es =>
                    obtain ⟨a', vs', e1, e2, e3, e4, r⟩ := q'
                    exact ⟨a', vs', e1, e2, by rw [upd_ne (fun z => s9.na i' a' e1 (.inr z))]; exact e3, e4, r.mv mu⟩
                · by_cases hb : a' = Dn
                  · rw [hb, upd_same]
                    exact ⟨_, rfl, NT.lst _⟩
                  · rw [upd_ne hb]
                    exact s9.dom a' z'
              refine ⟨ws1, hD9, ?_, ys.length - (j + 1), by omega, rfl, hlt1, gro_upd (g6.trans gg) hn hD9, acc1 ++ [y2], ws1 ++ [w], ys2, upd_same, (hR9.append (.cons r9 .nil)).mv mu, d7, ?_, ?_, s10, m6.trans ((gg.mv).trans mu)⟩
              · rw [← hR6.length, ← sl16]
                omega
              · rw [hds6, List.append_assoc]
                rfl
              · rw [List.length_append]
                simp only [List.length_cons, List.length_nil]
                omega
            | false =>
              rw [if_neg Bool.false_ne_true] at d4
              have gg := g7.trans g8
              exact (if_neg Bool.false_ne_true).mpr ⟨ys.length - (j + 1), by omega, rfl, hlt1, g6.trans gg, acc1, ws1, r1, gg.kp.any hD6 (NT.lst _), hR6.mv gg.mv, d4, hds6, by omega, s6.grow gg, m6.trans gg.mv⟩
        · have hd : ys.drop j = [] := List.drop_eq_nil_of_le (by omega)
          rw [hd] at hc6
          cases hc6
          rw [List.append_nil] at hds6
          refine .inl ⟨stop1 j (by omega), xs.length - (i + 1), by omega, rfl, hlt, g6, acc1, ws1, r', hD6, hR6, c11, ?_, ?_⟩
          · rw [hds, ← hds6, List.append_assoc]
          · have : j = ys.length := by omega
            omega
      | false =>
        rw [if_neg Bool.false_ne_true] at c4
        exact (if_neg Bool.false_ne_true).mpr ⟨xs.length - (i + 1), by omega, rfl, hlt, g2.trans (g3.trans g4), acc, ws, r, (g3.trans g4).kp.any hD (NT.lst _), hR.mv (g3.trans g4).mv, c4, hds, by omega⟩
  · have hd : xs.drop i = [] := List.drop_eq_nil_of_le (by omega)
    rw [hd] at hc
    cases hc
    rw [List.append_nil] at hds
    subst hds
    exact .inl ⟨stop i (by omega), q Dn ws H2 (g1'.trans g2) (g1'.nn _ hn) hD (hR.mv (Mv.weak fun b z => z.elim (fun z => z.elim (fun z => .inl (.inl z)) .inr) fun z => .inl (.inr z)))⟩
end
section
variable {X : Cx} {C : Ctx} {W : WX} {vs1 : List Nat} {fi fi1 : Rho → Option (List D)} {g g1 : D → Rho → Option Rho} {t t1 : Rho → Option Bool} {f : Rho → Option D}
theorem fe_lc2 {elt tg iter tg1 iter1 : Expr} {ifs ifs1 : List Expr} {scope : Scope} (own : List (Str × Nat)) (vs1 : List Nat) {pos : Pos} (hc : X.calm = true) (hN : X.N.Nodup) (hi : QI X C tg iter fi) (ok : BlkOk X.N X.env.scope scope own) (hv : ∀ i ∈ vs1, i ∈ own.map (·.2))
    (hg : ∀ (s : Shared) (H : Hp) (Ca : Addr) (cl : List (Str × Addr)) (fp : List Addr), QG (X.blk s H scope (compEnvC scope cl Ca X.env) fp) C (own.map (·.2)) tg g)
    (ht : ∀ (s : Shared) (H : Hp) (Ca : Addr) (cl : List (Str × Addr)) (fp : List Addr), QTs (X.blk s H scope (compEnvC scope cl Ca X.env) fp) C ifs t)
    (hi1 : ∀ (s : Shared) (H : Hp) (Ca : Addr) (cl : List (Str × Addr)) (fp : List Addr), QI (X.blk s H scope (compEnvC scope cl Ca X.env) fp) C tg1 iter1 fi1)
    (hg1 : ∀ (s : Shared) (H : Hp) (Ca : Addr) (cl : List (Str × Addr)) (fp : List Addr), QG (X.blk s H scope (compEnvC scope cl Ca X.env) fp) C vs1 tg1 g1)
    (ht1 : ∀ (s : Shared) (H : Hp) (Ca : Addr) (cl : List (Str × Addr)) (fp : List Addr), QTs (X.blk s H scope (compEnvC scope cl Ca X.env) fp) C ifs1 t1)
    (he : ∀ (s : Shared) (H : Hp) (Ca : Addr) (cl : List (Str × Addr)) (fp : List Addr), QE (X.blk s H scope (compEnvC scope cl Ca X.env) fp) C elt f) (hs : ∀ x, foldedSetIterable iter X.env x = pure x := by intro _; rfl) (hs1 : ∀ env x, foldedSetIterable iter1 env x = pure x := by intro _ _; rfl) :
    FE X C (.ListComp elt [⟨tg, iter, ifs, 0⟩, ⟨tg1, iter1, ifs1, 0⟩] scope pos) (qLc2 (own.map (·.2)) vs1 fi g t fi1 g1 t1 f) :=
  wkE (pe_lc2 hc hN hi ok hv hg (fun s H Ca cl fp => (ht s H Ca cl fp).pt) hi1 hg1 (fun s H Ca cl fp => (ht1 s H Ca cl fp).pt) he hs hs1) fun σ H Q h => lc2Q h
theorem qs_setLc2 {i : Nat} {y : Str} {py : Pos} {elt tg iter tg1 iter1 : Expr} {ifs ifs1 : List Expr} {scope : Scope} (own : List (Str × Nat)) (vs1 : List Nat) {pos spos : Pos} (hc : X.calm = true) (hN : X.N.Nodup) (hy : X.N[i]? = some y) (hyl : X.env.scope.names.lookup y = some .local)
    (hsw : swapsWith (.ListComp elt [⟨tg, iter, ifs, 0⟩, ⟨tg1, iter1, ifs1, 0⟩] scope pos) (some (.Name y py)) spos.line X.env = pure true) (hi : QI X C tg iter fi) (ok : BlkOk X.N X.env.scope scope own) (hv : ∀ i ∈ vs1, i ∈ own.map (·.2))
    (hg : ∀ (s : Shared) (H : Hp) (Ca : Addr) (cl : List (Str × Addr)) (fp : List Addr), QG (X.blk s H scope (compEnvC scope cl Ca X.env) fp) C (own.map (·.2)) tg g)
    (ht : ∀ (s : Shared) (H : Hp) (Ca : Addr) (cl : List (Str × Addr)) (fp : List Addr), QTs (X.blk s H scope (compEnvC scope cl Ca X.env) fp) C ifs t)
    (hi1 : ∀ (s : Shared) (H : Hp) (Ca : Addr) (cl : List (Str × Addr)) (fp : List Addr), QI (X.blk s H scope (compEnvC scope cl Ca X.env) fp) C tg1 iter1 fi1)
    (hg1 : ∀ (s : Shared) (H : Hp) (Ca : Addr) (cl : List (Str × Addr)) (fp : List Addr), QG (X.blk s H scope (compEnvC scope cl Ca X.env) fp) C vs1 tg1 g1)
    (ht1 : ∀ (s : Shared) (H : Hp) (Ca : Addr) (cl : List (Str × Addr)) (fp : List Addr), QTs (X.blk s H scope (compEnvC scope cl Ca X.env) fp) C ifs1 t1)
    (he : ∀ (s : Shared) (H : Hp) (Ca : Addr) (cl : List (Str × Addr)) (fp : List Addr), QE (X.blk s H scope (compEnvC scope cl Ca X.env) fp) C elt f) (hs : ∀ x, foldedSetIterable iter X.env x = pure x := by intro _; rfl) (hs1 : ∀ env x, foldedSetIterable iter1 env x = pure x := by intro _ _; rfl) :
    QS X C W (.Assign [.Name y py] (.ListComp elt [⟨tg, iter, ifs, 0⟩, ⟨tg1, iter1, ifs1, 0⟩] scope pos) spos) (sSet i (kF (liftF (qLc2 (own.map (·.2)) vs1 fi g t fi1 g1 t1 f)))) :=
  wkS (ps_setLc2 hc hN hy hyl hsw hi ok hv hg (fun s H Ca cl fp => (ht s H Ca cl fp).pt) hi1 hg1 (fun s H Ca cl fp => (ht1 s H Ca cl fp).pt) he hs hs1) fun Dn σ H ⟨A, α, ρ, sr, q⟩ => lc2Q (postF_rdF sr (postK_F (set_post sr q)))
end
end VL
end
section
set_option Elab.async false
set_option linter.all false
set_option maxRecDepth 100000
set_option maxHeartbeats 2000000
/-! VL10: own exception classes whose __init__ says super().__init__(text); self.f = f. -/
namespace PySem
namespace VLX
open PySem.W PySem.Calls PyProof.Rows PySem.HandSPX
def iA (fn : Str) (p1 p2 : Pos) : Arguments := { posonlyargs := [], args := [{ arg := "self", annotation := none, pos := p1 }, { arg := fn, annotation := none, pos := p2 }], vararg := none, kwonlyargs := [], kw_defaults := [], kwarg := none, defaults := [] }
def iB (fn txt : Str) (k : Nat) (q1 q2 q3 q4 q5 q6 q7 q8 q9 q10 : Pos) : List Stmt :=
  [.Expr (.Call (.Attribute (.Call (.Name "super" q1) [] [] q2) "__init__" q3) [.Constant (.str txt) k q4] [] q5) q6, .Assign [.Attribute (.Name "self" q7) fn q8] (.Name fn q9) q10]
def iS (fn : Str) : Scope := { kind := .function, names := [(PySem.Str.ofString "self", .local), (fn, .local), (PySem.Str.ofString "__class__", .free), (PySem.Str.ofString "super", .globalImplicit)], isGenerator := false, isCoroutine := false, more := [] }
/-- what the written part says of a class at C, of its __init__ at fI -/
structure ExT (P : Program) (K : Frag) (mg : Str → Option Value) (nm fn txt : Str) (B newId initId : String) (bmB : List Value) (C fI : Addr) : Prop where
  gC : mg nm = some (.ref C)
  cls : ∃ nm q N bs sn sub ab col dd k0 k1 k2 k3 k5, K.lookup C = some (excClassObj nm q C N bs bmB true sn sub ab col dd k0 k1 k2 k3 k5 newId)
  sa : findIn K (.ref C) "__setattr__" = some (some (.builtin "object.__setattr__"))
  noN : findIn K (.ref C) fn = some none
  iC : findIn K (.ref C) "__init__" = some (some (.ref fI))
  tC : typeIn K (.ref fI) = some (.type "function")
  kC : keepIn K (.ref C) = true
  exC : subIn K (.ref C) (.type "BaseException") = some true
  tyC : typeIn K (.ref C) = some (.type "type")
  sub : mroIn K C (.ref C) = some true
  subB : subIn K (.ref C) (.type B) = some true
  sup : mg "super" = none
  al : ks_superIn K C C "__init__" = some (some (.builtin initId))
  any : nsIn K cStatics "thirdparty.any" = some none
  top : (P.main.scope.names.lookup ("super" : Str)).isSome = false
  fn_ : ∃ (oc : Value) (od : Option Addr) (doc pm : Value) (an : Option Addr) (cda cc : Addr) (ct : Value) (osl : Array (Option Value)) (p1 p2 q1 q2 q3 q4 q5 q6 q7 q8 q9 q10 : Pos) (k : Nat),
    K.lookup fI = some ⟨oc, od, .func (ksFn "__init__" (nm ++ ".__init__") (iA fn p1 p2) (iB fn txt k q1 q2 q3 q4 q5 q6 q7 q8 q9 q10) (iS fn) .none .none doc pm an (.ref cda) ct cc), osl⟩ ∧ codeIn K (.ref cda) (nm ++ ".__init__") = true ∧
      (∃ (ccl : Value) (cdd : Option Addr) (vs : Array Value) (ccs : Array (Option Value)) (file : Str) (tf : Tok), K.lookup cda = some ⟨ccl, cdd, .fields vs, ccs⟩ ∧ vs[2]? = some (.str file tf) ∧ ((P.main.file : Str) == file) = true) ∧
      (∃ (cl : Value) (cld : Option Addr) (csl : Array (Option Value)), K.lookup cc = some ⟨cl, cld, .cell (some (.ref C)), csl⟩) ∧
      (∃ pl : Sem Bool, ∀ L : Addr, eval (.Call (.Attribute (.Call (.Name "super" q1) [] [] q2) "__init__" q3) [.Constant (.str txt) k q4] [] q5) (ksEnv (nm ++ ".__init__") (iS fn) L fI (.ref cda) cc) = (do
        let ov ← attributeBase (.Call (.Name "super" q1) [] [] q2) "__init__" (ksEnv (nm ++ ".__init__") (iS fn) L fI (.ref cda) cc) (eval (.Call (.Name "super" q1) [] [] q2) (ksEnv (nm ++ ".__init__") (iS fn) L fI (.ref cda) cc))
        standAt q3.atName
        let (f, first) ← holding [ov] (getMethod ov "__init__" pl)
        callWith q5 f first (backTo q5 (starEach [.Constant (.str txt) k q4] (ksEnv (nm ++ ".__init__") (iS fn) L fI (.ref cda) cc))) []))
/-- what is needed of the built-in base -/
structure BaseF (B newId initId : String) (bmB : List Value) : Prop where
  ex : ExcBaseFacts B newId initId bmB
  kx : KxsFacts B initId
  st : ∀ self : Value, refuseLoop self "__setattr__" bmB = pure ()
  ob : bmB.contains (.type "object") = true
/-- a field's name -/
structure NmF (fn : Str) : Prop where
  n1 : (fn == ("self" : Str)) = false
  n1' : ((PySem.Str.ofString "self") == fn) = false
  n3 : (fn == ("__debug__" : Str)) = false
  k2 : (iS fn).names.lookup ("super" : Str) = some .globalImplicit
  k3 : (iS fn).names.lookup ("__class__" : Str) = some .free
  bd : ∀ (q : Str) (p1 p2 : Pos) (b : List Stmt) (doc pm cd ct : Value) (an : Option Addr) (cc : Addr) (x v : Value), bindArgs (ksFn "__init__" q (iA fn p1 p2) b (iS fn) .none .none doc pm an cd ct cc) ⟨[x, v], []⟩ = pure [(PySem.Str.ofString "self", x), (fn, v)]
theorem bIndexError : BaseF "IndexError" "IndexError.__new__" "IndexError.__init__" [.type "IndexError", .type "LookupError", .type "Exception", .type "BaseException", .type "object"] := ⟨F.excBase_IndexError, kxs_IndexError, F.store_IndexError.passes, by decide +kernel⟩
theorem bArithmeticError : BaseF "ArithmeticError" "ArithmeticError.__new__" "ArithmeticError.__init__" [.type "ArithmeticError", .type "Exception", .type "BaseException", .type "object"] := ⟨F.excBase_ArithmeticError, kxs_ArithmeticError, F.store_ArithmeticError.passes, by decide +kernel⟩
section
variable {prog : Program} {w : World} {A : Around} {E : Value → Shared → Prop} {h : Heap} {g : Array GenState} {d : Drawn} {t : Nat} {os : OsState}
variable {nm q : Str} {C N : Addr} {bs bm : List Value} {hdct : Bool} {sn : List Str} {sub : List Value} {ab : Bool} {col : Option Bool} {dd : Option Addr} {k0 k1 k2 k3 k5 : Option Value} {B newId initId : String}
theorem call_mw (F : ExcBaseFacts B newId initId bm) {u e t0 : Addr} {rest : List Value} {Q : Value → Shared → Prop}
    (hC : h.get? C = some (excClassObj nm q C N bs bm hdct sn sub ab col dd k0 k1 k2 k3 k5 newId)) (he : h.get? e = some (HandSPX.excO C t0)) (hu : h.get? u = some (kxs_mw initId e)) (hrest : rest.length ≤ sizeLine)
    (hq : ∀ h' t1, (∀ b o, b ≠ e → h.get? b = some o → h'.get? b = some o) → h'.get? e = some (HandSPX.excO C t1) → Q .none ⟨h', g, d, t, os⟩) :
    wpAny (model prog w) A (call (.ref u) rest) Q E ⟨h, g, d, t, os⟩ := by
  refine wpAny_call (codeAny_of_tree ?_)
  show wpAny _ A.in1 (callAny (.ref u) ⟨rest, []⟩) _ _ _
  simp only [callAny]
  refine wpAny_bind (wpAny_load hu ?_)
  simp only [kxs_mw, show (Value.type "method-wrapper" == Value.type "method" || Value.type "method-wrapper" == Value.type "builtin_function_or_method" || Value.type "method-wrapper" == Value.type "method-wrapper") = true by decide, if_true]
  refine W.KFB.if_so (by decide) ?_
  refine wpAny_bind (check_bound_init F.toExcCallFacts hC he rfl ?_)
  refine wpAny_bind (wpAny_pure (wpAny_pure ?_))
  refine ⟨plainId_quiet F.init.plain _, codeAny_builtin F.initEntry ?_⟩
  exact exc_init_tree (cls := .ref C) (t0 := t0) (dv := none) (c2 := .none) (c3 := .none) (b4 := .bool false) he hrest fun h' k e' _ => hq h' _ k e'
end
section
open Builtin Builtin.ObjectAttr
variable {prog : Program} {w : World} {A : Around} {E : Value → Shared → Prop} {R : Result → Shared → Prop} {hp : Heap} {g : Array GenState} {d : Drawn} {t : Nat} {os : OsState}
theorem osa_newB {bmB : List Value} {K : W.Frag} {name : Str} {tk : Tok} {v : Value} {x C : Addr} {fv : Array Value} {cd : ClassData}
    (SB : ∀ self : Value, refuseLoop self "__setattr__" bmB = pure ()) (hob : bmB.contains (.type "object") = true)
    (X : K.In hp) (hx : hp.get? x = some { cls := .ref C, data := .fields fv }) (hcd : W.clsIn K C = some cd) (hm : cd.mro = .ref C :: bmB) (hh : cd.hasDict = true) (ha : W.findIn K (.ref C) name = some none)
    (hq : ∀ h' tk' dx, (∀ b o, b ≠ x → hp.get? b = some o → h'.get? b = some o) → hp.objs.size ≤ dx → dx ≠ x → h'.get? x = some { cls := .ref C, dict := some dx, data := .fields fv } →
      h'.Ns1 dx (fun y => if y = name then some v else none) → R (.ok (.ret .none)) ⟨h', g, d, tk', os⟩) :
    codeAny (model prog w) A (.call (.builtin "object.__setattr__") ⟨[.ref x, .str name tk, v], []⟩) R ⟨hp, g, d, t, os⟩ := by
  have I : W.InstAt hp x { cls := .ref C, data := .fields fv } C none := ⟨hx, rfl, rfl, trivial⟩
  have hxs : x ≠ hp.objs.size := Nat.ne_of_lt (Heap.lt_size hx)
  have SF := F.store_object
  have hmi : W.mroIn K C (.type "object") = some true := by
    unfold W.mroIn
    rw [hcd, Option.bind_some, hm, if_neg (show ¬ (List.isEmpty (Value.ref C :: bmB) = true) from Bool.false_ne_true), List.contains_cons, hob, Bool.or_true]
  have sub : W.Looks (model prog w) hp (isInstance (.ref x) (.type "object")) true := I.type.andThen (W.looks_mroIn X hmi)
  refine codeAny_call_builtin SF.slot.plain SF.entry (@W.check_slot (model prog w) _ _ ⟨hp, g, d, t, os⟩ "object.__setattr__" "object" "__setattr__" (.ref x) [.str name tk, v] [] _ SF.kind SF.split sub (SF.args (.ref x) (.str name tk) v) ?_)
  have hmr : W.Looks (model prog w) hp (mroOf (.ref C)) cd.mro := (W.looks_clsIn X hcd).andThen .now
  have L3 : W.Looks (model prog w) hp (storeTaker? none) none := .now
  have hpass : refuseLoop (.ref x) "__setattr__" cd.mro = pure () := by
    rw [hm, refuseLoop_ref]
    exact SB _
  have hcls : W.Looks (model prog w) hp (classData C) cd := W.looks_clsIn X hcd
  rw [W.osa_eq, refuse_eq]
  refine wpAny_bind (wpAny_bind (I.type.at (wpAny_bind (hmr.at ?_))))
  rw [hpass]
  refine wpAny_pure (wpAny_bind (I.type.at (wpAny_bind ((W.looks_findIn X ha).at (wpAny_bind (L3.at ?_))))))
  show wpAny _ _ (storeInOwnDict (.ref x) (.ref C) (.str name tk) name v false) _ _ _
  obtain ⟨nm, bs, mro, ns, qn, hd, sn, sb, ab, col, del⟩ := cd
  dsimp only at hh
  subst hh
  unfold storeInOwnDict ownDictForStores
  repeat (first | with_reducible refine HandSPX.store_in_new ?_ ?_ | with_reducible refine wpAny_loadPart_at hx ?_ | with_reducible refine hcls.at ?_ | wp_step)
  · exact ⟨_, #[], _, (Heap.get?_update_ne _ _ _ _ hxs.symm).trans (Heap.get?_push_at rfl rfl), rfl, fun e he => absurd he (by simp), fun _ => rfl⟩
  · intro h' tk' hn' hs
    have hx₁ : (hp.push { cls := .type "dict", data := .dict #[] }).get? x = some { cls := .ref C, data := .fields fv } := Heap.get?_push_of_some _ hx
    refine hq h' tk' hp.objs.size (fun b o hb ho => ?_) (Nat.le_refl _) hxs.symm ?_ hn'
    · exact (hs.2 b (Nat.ne_of_lt (Heap.lt_size ho))).trans ((Heap.get?_update_ne _ _ _ _ hb).trans (Heap.get?_push_of_some _ ho))
    · exact (hs.2 x hxs).trans (Heap.get?_update_self _ hx₁ rfl)
end
/-- what __init__ leaves of a fresh exception at x -/
structure InitEnd (h h' : Heap) (fn : Str) (x C dx t1 : Addr) (v : Value) : Prop where
  keep : ∀ b o, b ≠ x → h.get? b = some o → h'.get? b = some o
  obj : h'.get? x = some { cls := .ref C, dict := some dx, data := .fields #[.ref t1, .none, .none, .none, .bool false, .none] }
  dbig : h.objs.size ≤ dx
  dne : dx ≠ x
  ns : h'.Ns1 dx (fun y => if y = fn then some v else none)
theorem ldS {M : Model} {s : Shared} {env : Env} {m : Str → Option Value} {x : Str} {pos : Pos} {v : Value} {Q : Value → Shared → Prop} {A : Around} {E : Value → Shared → Prop} (hn : s.heap.Ns env.locals m) (hv : m x = some v) (h : Q v s)
    (hk : env.scope.kind = .function) (hl : env.kindOf x = some .local) (hd : (x == ("__debug__" : Str)) = false) :
    wpAny M A (eval (.Name x pos) env) Q E s := wpAny_Name (wpAny_loadName_local hk hl hn hv h) hd
theorem ns_keep {h h' : Heap} {L x : Addr} {m : Str → Option Value} (n : h.Ns L m) (hL : L ≠ x) (k : ∀ b o, b ≠ x → h.get? b = some o → h'.get? b = some o) : h'.Ns L m := by
  obtain ⟨o, es, ep, e, r⟩ := n
  exact ⟨o, es, ep, k _ _ hL e, r⟩
section
variable {prog : Program} {w : World} {A : Around} {E : Value → Shared → Prop} {R : Result → Shared → Prop} {s : Shared} {K : Frag} {mg mb : Str → Option Value} {nm fn txt : Str} {B newId initId : String} {bmB : List Value} {C fI : Addr}
theorem sup_init (T : ExT prog K mg nm fn txt B newId initId bmB C fI) (BF : BaseF B newId initId bmB) (NF : NmF fn) {x t0 : Addr} {v : Value} (X : K.In s.heap) (hlim : s.heap.NoLimit) (hg : s.heap.Ns mainGlobals mg) (hb : s.heap.Ns builtinsNs mb) (hmb : mb "super" = some (.type "super"))
    (hx : s.heap.get? x = some (excO C t0)) (hnx : K.lookup x = none) (hxg : x ≠ mainGlobals) (hxb : x ≠ builtinsNs) (hroom : A.depth < recursionLimit)
    (hq : ∀ h' tk dx t1, InitEnd s.heap h' fn x C dx t1 v → R (.ok (.ret .none)) { s with heap := h', toks := tk }) :
    codeAny (model prog w) A (.call (.ref fI) ⟨[.ref x, v], []⟩) R s := by
  obtain ⟨oc, od, doc, pm, an, cda, cc, ct, osl, p1, p2, q1, q2, q3, q4, q5, q6, q7, q8, q9, q10, k, ho, hcd, ⟨ccl, cdd, vs, ccs, file, tf, hcode, hvs, hfile⟩, ⟨cl, cld, csl, hcell⟩, ⟨pl, hev⟩⟩ := T.fn_
  obtain ⟨nm', q, N, bs, sn, sub, ab, col, dd, k0, k1, k2, k3, k5, hC⟩ := T.cls
  have hcl : clsIn K C = some { name := nm', bases := bs, mro := .ref C :: bmB, ns := N, qualname := q, hasDict := true, slotNames := sn, subclasses := sub, abstract := ab, collection := col, hasDel := false } := by unfold clsIn; rw [hC] <;> rfl
  have hnself : (fn == PySem.Str.ofString "self") = false := NF.n1
  have hlf : (iS fn).names.lookup fn = some .local := by
    show List.lookup fn [(PySem.Str.ofString "self", NameKind.local), (fn, .local), (PySem.Str.ofString "__class__", .free), (PySem.Str.ofString "super", .globalImplicit)] = _
    rw [List.lookup_cons, hnself]
    simp [List.lookup_cons]
  refine ks_codeAny_call_defAt (fd := ksFn "__init__" (nm ++ ".__init__") (iA fn p1 p2) (iB fn txt k q1 q2 q3 q4 q5 q6 q7 q8 q9 q10) (iS fn) .none .none doc pm an (.ref cda) ct cc) (body := iB fn txt k q1 q2 q3 q4 q5 q6 q7 q8 q9 q10) (binds := [("self", .ref x), (fn, v)])
    hroom (X _ _ ho) rfl hlim (codeRec_of X hcd) rfl ?_ ?_ ?_ ?_
  · exact BindsTo.of_eq (NF.bd _ _ _ _ _ _ _ _ _ _ _ _)
  · intro y hy
    have hy : y ∈ [(PySem.Str.ofString "self", NameKind.local), (fn, .local), (PySem.Str.ofString "__class__", .free), (PySem.Str.ofString "super", .globalImplicit)] := hy
    simp only [List.mem_cons, List.not_mem_nil, or_false] at hy
    rcases hy with rfl | rfl | rfl | rfl <;> simp
  · intro y hy
    simp only [List.mem_cons, List.not_mem_nil, or_false] at hy
    rcases hy with rfl | rfl
    · rfl
    · exact hlf
  · intro h₁ hns hk₁
    have X₁ : K.In h₁ := X.keeps hk₁
    have hx₁ := hk₁ _ _ hx
    have hC₁ := hk₁ _ _ (X _ _ hC)
    have hD2 : (excClassObj nm' q C N bs bmB true sn sub ab col dd k0 k1 k2 k3 k5 newId).data = .cls { name := nm', bases := bs, mro := .ref C :: bmB, ns := N, qualname := q, hasDict := true, slotNames := sn, subclasses := sub, abstract := ab, collection := col, hasDel := false } := rfl
    have hxL : s.heap.objs.size ≠ x := Nat.ne_of_gt (Heap.lt_size hx)
    have m1 : ([(PySem.Str.ofString "self", Value.ref x), (fn, v)] : List (Str × Value)).reverse.lookup (PySem.Str.ofString "self") = some (Value.ref x) := by
      show List.lookup (PySem.Str.ofString "self") [(fn, v), (PySem.Str.ofString "self", Value.ref x)] = _
      rw [List.lookup_cons, NF.n1']
      rfl
    have m2 : ([(PySem.Str.ofString "self", Value.ref x), (fn, v)] : List (Str × Value)).reverse.lookup fn = some v := by
      show List.lookup fn [(fn, v), (PySem.Str.ofString "self", Value.ref x)] = _
      simp [List.lookup_cons]
    let env : Env := ksEnv (nm ++ ".__init__") (iS fn) s.heap.objs.size fI (.ref cda) cc
    show _root_.PySem.wpAt (model prog w) (A.deeper env) (.func (iB fn txt k q1 q2 q3 q4 q5 q6 q7 q8 q9 q10) env) (execs (iB fn txt k q1 q2 q3 q4 q5 q6 q7 q8 q9 q10) env) _ _ _
    refine ks_wpAt_execs_cons (ks_wpAt_Expr_any (ks_wpAt_MethodCall (pl := pl) ?_ (hev _)))
    refine ks_wpAt_super_base (env := env) NF.k2 NF.k3 (by decide) rfl (hk₁ _ _ (X _ _ ho)) rfl rfl rfl (X₁ _ _ hcode) rfl hvs hfile T.top ?_
    refine ks_loadName_global rfl NF.k2 (loadGlobal_builtin (env := env) (hg.keeps hk₁) T.sup (hb.keeps hk₁) hmb ⟨rfl, ?_⟩)
    refine wpAny_loadName_free rfl NF.k3 rfl ⟨_, X₁ _ _ hcell, rfl⟩ ?_
    refine wpAny_loadName_local rfl rfl hns m1 ?_
    refine ks_wpAny_isType_cls hC₁ hD2 ⟨rfl, ?_⟩
    refine ks_wpAny_call_super hC₁ hD2 hx₁ rfl (fun c e => nomatch e) (looks_mroIn X₁ T.sub) (fun h2 e2 k2 => ?_)
    have X2 : K.In h2 := X₁.keeps k2
    have hx2 := k2 _ _ hx₁
    have hxC : x ≠ C := fun z => by rw [z, hC] at hnx; cases hnx
    have I2 : InstAt h2 x (excO C t0) C none := ⟨hx2, rfl, rfl, trivial⟩
    have hal : alongIn K "__init__" (((Value.ref C :: bmB).dropWhile (· != .ref C)).drop 1) = some (some (.builtin initId)) := by
      have z := T.al
      unfold ks_superIn at z
      rw [hcl] at z
      exact z
    refine kxs_getMethod BF.kx e2 (looks_opaque X2 T.any) (l₀ := .ref C :: bmB) ?_ rfl X2 hal (I2.type.andThen (looks_subIn X2 T.subB)) hxC (by decide) ?_
    · exact fun A Q E s k q => wpAny_bind ((looks_clsIn X2 hcl) A _ E s k (wpAny_pure q))
    have e3 : (h2.push (kxs_mw initId x)).get? h2.objs.size = some (kxs_mw initId x) := Heap.get?_push_at rfl rfl
    have k3 : ∀ b o, h2.get? b = some o → (h2.push (kxs_mw initId x)).get? b = some o := fun b o e => Heap.get?_push_of_some _ e
    show wpAny _ _ (callWith q5 (.ref h2.objs.size) [] (backTo q5 (starEach [.Constant (.str txt) k q4] env)) []) _ _ _
    refine kxs_callWith (i := initId) (x := x) rfl (evalArgs_plain ?_)
    show wpAny _ _ (spliced ((false, eval (.Constant (.str txt) k q4) env) :: backTo q5 (starEach [] env))) _ _ _
    refine Calls.spliced_cons (Calls.Constant_str (Calls.spliced_nil ⟨e3, ?_⟩))
    refine call_mw BF.ex (k3 _ _ (k2 _ _ hC₁)) (k3 _ _ hx2) e3 (by rw [sizeLine_eq]; exact (by decide : 1 ≤ 16777216)) (fun h4 t4 k4 e4 => ?_)
    have hk : ∀ b o, b ≠ x → h₁.get? b = some o → h4.get? b = some o := fun b o hb e => k4 b o hb (k3 _ _ (k2 _ _ e))
    have hns4 : h4.Ns s.heap.objs.size (fun y => ([(PySem.Str.ofString "self", Value.ref x), (fn, v)] : List (Str × Value)).reverse.lookup y) := ns_keep hns hxL hk
    refine wpAt_of_wpAny ?_
    show wpAny _ _ (execs [.Assign [.Attribute (.Name "self" q7) fn q8] (.Name fn q9) q10] env) _ _ _
    refine wpAny_execs_cons (plainObj_wpAny_Assign_Attribute ?_)
    refine ldS (v := v) hns4 m2 (ldS (v := .ref x) hns4 m1 ?_ rfl rfl (by decide)) rfl hlf NF.n3
    have X4 : K.In h4 := fun a o e => hk a o (fun z => by rw [z, hnx] at e; cases e) (X₁ a o e)
    refine set_plain X4 (ox := excO C t4) (od := none) ⟨e4, rfl, rfl, trivial⟩ T.sa ?_
    refine osa_newB BF.st BF.ob X4 e4 hcl rfl rfl T.noN (fun h5 tk5 dx k5 dn dne hx5 hn5 => ?_)
    show wpAny _ _ (execs _ _) _ _ _
    have z : s.heap.objs.size < h4.objs.size := hns4.lt
    exact wpAny_execs_nil (hq h5 tk5 dx t4 ⟨fun b o hb e => k5 b o hb (hk b o hb (hk₁ b o e)), hx5, Nat.le_of_lt (Nat.lt_of_lt_of_le z dn), dne, hn5⟩)
/-- a made one -/
structure OwnMade (h h' : Heap) (fn : Str) (e C d : Addr) (v : Value) : Prop where
  keep : ∀ b o, h.get? b = some o → h'.get? b = some o
  new : h.objs.size ≤ e
  obj : ∃ oe vs, h'.get? e = some oe ∧ oe.cls = .ref C ∧ oe.dict = some d ∧ oe.data = .fields vs ∧ vs[1]? = some .none
  dbig : h.objs.size ≤ d
  dne : d ≠ e
  ns : h'.Ns1 d (fun y => if y = fn then some v else none)
theorem one_size (v : Value) : [v].length ≤ sizeLine := by
  rw [sizeLine_eq]
  exact (by decide : 1 ≤ 16777216)
theorem sup_made (T : ExT prog K mg nm fn txt B newId initId bmB C fI) (BF : BaseF B newId initId bmB) (NF : NmF fn) {v : Value} (X : K.In s.heap) (hlim : s.heap.NoLimit) (hg : s.heap.Ns mainGlobals mg) (hb : s.heap.Ns builtinsNs mb) (hmb : mb "super" = some (.type "super"))
    (hroom : A.depth + 1 < recursionLimit)
    (hq : ∀ h' tk e d, OwnMade s.heap h' fn e C d v → R (.ok (.ret (.ref e))) { s with heap := h', toks := tk }) :
    codeAny (model prog w) A (.call (.ref C) ⟨[v], []⟩) R s := by
  obtain ⟨nm', q, N, bs, sn, sub, ab, col, dd, k0, k1, k2, k3, k5, hC⟩ := T.cls
  obtain ⟨hp, g, dr, tk, os⟩ := s
  have k : ∀ b o, hp.get? b = some o → ((hp.push (kdv_tup [v])).push (excO C hp.objs.size)).get? b = some o := fun b o e => Heap.get?_push_of_some _ (Heap.get?_push_of_some _ e)
  have hget : ((hp.push (kdv_tup [v])).push (excO C hp.objs.size)).get? (hp.objs.size + 1) = some (excO C hp.objs.size) := by heap_get
  have hnx : K.lookup (hp.objs.size + 1) = none := by
    cases e : K.lookup (hp.objs.size + 1) with
    | none => rfl
    | some o =>
      have z : hp.get? (hp.objs.size + 1) = some o := X _ _ e
      exact absurd (Nat.lt_of_succ_lt (Heap.lt_size z)) (Nat.lt_irrefl _)
  have lt : ∀ {L : Addr} {m : Str → Option Value}, hp.Ns L m → hp.objs.size + 1 ≠ L := fun {L m} n z => by
    have y : L < hp.objs.size := n.lt
    rw [← z] at y
    exact absurd (Nat.lt_of_succ_lt y) (Nat.lt_irrefl _)
  refine call_own BF.ex (fun _ => rfl) (X _ _ hC) (looks_findIn X T.iC) (fun self => bind_fn X self T.tC) (one_size v) ?_
  refine sup_init (s := ⟨(hp.push (kdv_tup [v])).push (excO C hp.objs.size), g, dr, tk, os⟩) T BF NF (X.keeps k) (hlim.keeps k) (hg.keeps k) (hb.keeps k) hmb hget hnx (lt hg) (lt hb) ?_ fun h' tk' dx t1 ⟨k', hx, dn, dne, hns⟩ => ?_
  · show A.depth + 1 < recursionLimit
    exact hroom
  · have old : ∀ b o, hp.get? b = some o → h'.get? b = some o := fun b o e => k' b o (Nat.ne_of_lt (Nat.lt_succ_of_lt (Heap.lt_size e))) (k b o e)
    have z : hp.objs.size + 1 + 1 ≤ dx := by
      first
        | (simpa only [Heap.size_push] using dn)
        | exact dn
        | (have q := dn; rw [Heap.size_push, Heap.size_push] at q; exact q)
    exact ⟨rfl, hq h' tk' (hp.objs.size + 1) dx ⟨old, Nat.le_succ _, ⟨_, _, hx, rfl, rfl, rfl, rfl⟩, Nat.le_trans (Nat.le_trans (Nat.le_succ _) (Nat.le_succ _)) z, dne, hns⟩⟩
end
end VLX
end PySem
namespace VL
open PySem PySem.Spec L2
open PyProof.Rows hiding St
open VLX
theorem relO_one {v : V} {v' : Value} (r : RelV v v') (fn f : Str) : RelO (List.lookup f [(fn, v)]) (if f = fn then some v' else none) := by
  by_cases hw : f = fn
  · subst hw
    rw [if_pos rfl]
    have q : List.lookup f [(f, v)] = some v := by simp [List.lookup]
    rw [q]
    exact r
  · rw [if_neg hw]
    have qw : (f == fn) = false := by simpa using hw
    have q2 : List.lookup f [(fn, v)] = none := by simp [List.lookup, qw]
    rw [q2]
    trivial
section
variable {X : Cx} {C : Ctx} {W : WX}
/-- C(e) -/
def tMkS (cA : Addr) (fn : Str) (te : TE) : L2.St → Hp → XK → Prop := fun σ H Q => te σ H fun v H1 => ∃ v', [v] = [v'] ∧ ∀ d, H1 d = none → Q (.ref cA) (some d) (upd H1 d (.xd [(fn, v')]))
theorem pmk_sup {nm fn txt : Str} {B newId initId : String} {bmB : List Value} {cA fI : Addr} {a : Expr} {te : TE} {p pos : Pos} {k : Nat} (T : ExT X.prog X.K X.mg nm fn txt B newId initId bmB cA fI) (BF : BaseF B newId initId bmB) (NF : NmF fn) (hr : Room k X.A) (ha : PE X a te) (hg : Gl X nm)
    (hd : (nm == ("__debug__" : Str)) = false := by decide)
    (he : starEach (a :: []) X.env = (false, eval a X.env) :: starEach [] X.env := by rfl) (hpl : (backTo pos (starEach [] X.env)).any (·.1) = false := by rfl) :
    PMk X (.Call (.Name nm p) [a] [] pos) (tMkS cA fn te) := by
  intro pins s σ H Q I h
  refine wpAny_Call_Name_kw (ld_glob I hg T.gC ?_ hd)
  refine PySem.W.callWith_K (h₀ := X.base) I.ok.mod.kin T.kC (thn ((pa_cons ha pa_nil he).run pos pins s σ H (fun vs H1 => ∃ v, vs = [v] ∧ ∀ d, H1 d = none → Q (.ref cA) (some d) (upd H1 d (.xd [(fn, v)]))) I h) fun us s1 hh => ?_) he hpl
  obtain ⟨vs, H1, I1, r1, v, ev, q1⟩ := hh
  subst ev
  refine ⟨I1.kIn, ?_⟩
  cases r1 with
  | cons rv rn =>
    rename_i v' us'
    cases rn
    show wpAny _ _ (call (.ref cA) [v']) _ _ _
    have hlim := I1.nolimit
    obtain ⟨mb, hb1, hb2⟩ := I1.mod.blt
    have hgl := I1.mod.glob.keeps I1.bk
    have hbl := hb1.keeps I1.bk
    obtain ⟨hp, g, dr, tk, os⟩ := s1
    refine wpAny_call (sup_made T BF NF I1.kIn hlim hgl hbl ((hb2 "super" (by decide)).trans rfl) (by have := hr.dp; omega) fun h' tk' e d M => ?_)
    show MkP X pins σ Q (.ref e) ⟨h', g, dr, tk', os⟩
    obtain ⟨oe, fv, hoe, hc, hd, hdat, h1⟩ := M.obj
    have hns := M.ns
    obtain ⟨G', g1, g2⟩ := restrict h' fun b => decide (b ≠ e)
    have gk : ∀ b, b ≠ e → G'.get? b = h'.get? b := fun b hb => g1 b (decide_eq_true hb)
    have ge : G'.get? e = none := g2 e (by simp)
    have old : ∀ b o, hp.get? b = some o → G'.get? b = some o := fun b o q => (gk b (Nat.ne_of_lt (Nat.lt_of_lt_of_le (Heap.lt_size q) M.new))).trans (M.keep b o q)
    have ob : ObjOk X.prog X.w (upd H1 d (.xd [(fn, v)])) G' d (.xd [(fn, v)]) :=
      ⟨_, hns.at (fun o q => (gk d M.dne).trans q), fun f => relO_one rv fn f⟩
    have J : Inv X pins σ (upd H1 d (.xd [(fn, v)])) ⟨G', g, dr, tk', os⟩ := I1.laid (t' := tk') old M.dbig ob
    refine ⟨e, oe, fv, ⟨G', g, dr, tk', os⟩, _, .ref cA, some d, rfl, J, fun b o q => ?_, ge, hoe, ⟨hc, hd⟩, hdat, h1, ?_, rfl, I1.bare, raises_own T.exC T.tyC, q1 d (I1.hok.fresh M.dbig)⟩
    · by_cases hb : b = e
      · have q' : G'.get? b = some o := q
        rw [hb, ge] at q'; cases q'
      · exact (gk b hb).symm.trans q
    · rw [upd_ne (Ne.symm M.dne)]
      exact I1.hok.fresh M.new
/-! ### raise -/
def sRaiseT (c : Nat) : Rho → SRes := fun ρ => .ex c .non ρ
def sRaise (c : Nat) (m : Rho → Res D) : Rho → SRes := fun ρ => match m ρ with
  | .ok d ρ' => .ex c d ρ'
  | .ex c p ρ' => .ex c p ρ'
  | .bad => .bad
/-- raise X('text'), a class without fields -/
theorem qs_raiseT {c : Nat} {cA : Addr} {bmB : List Value} {B newId initId : String} {x t : Str} {j : Nat} {p p2 pos pos2 : Pos} (hc : X.calm = true) (tk : Takes X W) (F : ExcBaseFacts B newId initId bmB) (q : PySem.W.excIn X.K cA bmB newId = true) (gC : X.mg x = some (.ref cA)) (kC : PySem.W.keepIn X.K (.ref cA) = true)
    (r : Raises X (.ref cA)) (hcl : C.cls c = .ref cA) (hfl : C.fld c = none) (hg : Gl X x) (hdb : (x == ("__debug__" : Str)) = false := by decide) :
    QS X C W (.Raise (some (.Call (.Name x p) [.Constant (.str t) j p2] [] pos)) none pos2) (sRaiseT c) :=
  wkS (ps_raise hc tk (pmk_own F q gC kC r hg hdb)) fun Dn σ H ⟨A, α, ρ, sr, q⟩ => by
    show W (.ref cA) none σ H
    rw [← hcl]
    refine q α σ none H sr Stp.refl ?_
    unfold XR
    rw [hfl]
    exact ⟨rfl, rfl⟩
theorem xd_new {K : PySem.W.Frag} {A : Addr → Prop} {α : Nat → Option Addr} {ρ : Rho} {σ : L2.St} {H : Hp} {c : Nat} {p : D} {v : V} {f : Str} {d : Addr} (s : SR K C A α ρ σ H) (r : Rep K C (Fb A α) H p v) (hf : C.fld c = some f) (n : H d = none) :
    SR K C A α ρ σ (upd H d (.xd [(f, v)])) ∧ Stp C α H α (upd H d (.xd [(f, v)])) ∧ XR K C (Fb A α) (upd H d (.xd [(f, v)])) c p (some d) := by
  have g : Gro C H (upd H d (.xd [(f, v)])) := Gro.new n
  refine ⟨s.grow g, Stp.of_gro g, ?_⟩
  unfold XR
  rw [hf]
  exact ⟨d, v, rfl, s.new n, upd_same, r.mv g.mv⟩
/-- raise X(e), a class whose __init__ keeps what it gets -/
theorem qs_raise {c : Nat} {nm fn txt : Str} {B newId initId : String} {bmB : List Value} {cA fI : Addr} {a : Expr} {m : Rho → Res D} {p pos pos2 : Pos} {k : Nat} (hc : X.calm = true) (tk : Takes X W) (T : ExT X.prog X.K X.mg nm fn txt B newId initId bmB cA fI) (BF : BaseF B newId initId bmB) (NF : NmF fn) (hr : Room k X.A)
    (hcl : C.cls c = .ref cA) (hfl : C.fld c = some fn) (ha : VE X C W a m) (hg : Gl X nm) (hd : (nm == ("__debug__" : Str)) = false := by decide)
    (he : starEach (a :: []) X.env = (false, eval a X.env) :: starEach [] X.env := by rfl) (hpl : (backTo pos (starEach [] X.env)).any (·.1) = false := by rfl) :
    QS X C W (.Raise (some (.Call (.Name nm p) [a] [] pos)) none pos2) (sRaise c m) :=
  wkS (ps_raise hc tk (pmk_sup T BF NF hr ha hg hd he hpl)) fun Dn σ H ⟨A, α, ρ, sr, q⟩ => by
    refine ⟨A, α, ρ, sr, ?_⟩
    unfold sRaise at q
    cases hf : m ρ with
    | bad => rw [hf] at q; exact q.elim
    | ex c' p' ρ' => rw [hf] at q; exact fun α' o H' s t x => q α' σ o H' s t x
    | ok d ρ' =>
      rw [hf] at q
      intro α' v H' s t r
      refine ⟨v, rfl, fun dd hd => ?_⟩
      obtain ⟨s2, t2, x2⟩ := xd_new s r hfl hd
      have z := q α' σ (some dd) _ s2 (t.trans t2) x2
      rw [hcl] at z
      exact z
end
end VL
end
section
set_option Elab.async false
set_option linter.all false
set_option maxRecDepth 100000
set_option maxHeartbeats 2000000
/-! VL11: try with several except clauses, some with a name (lines of HandS.TryMany and HandS.Exc's ps_try_as, put together). -/
namespace L2
open PySem PySem.Spec PyProof.Rows
abbrev HTs := Addr → Value → Option Addr → TS
/-- what the clauses wish of an exception of the body -/
def wAll (K : PySem.W.Frag) (Wout : WX) (D : Ends) : List (Value × Option Nat × HTs) → WX
  | [] => Wout
  | (c, none, ts) :: r => fun cls d σ H => ∃ b, PySem.W.exmOne K cls c = some b ∧ (b = true → ∀ a, H a = none → ts a cls d D σ H) ∧ (b = false → wAll K Wout D r cls d σ H)
  | (c, some i, ts) :: r => fun cls d σ H => ∃ b, PySem.W.exmOne K cls c = some b ∧
      (b = true → ∀ a, H a = none → ts a cls d { nx := fun σ' H' => D.nx (σ'.set i none) H', rt := D.rt, bk := fun σ' H' => D.bk (σ'.set i none) H', ct := fun σ' H' => D.ct (σ'.set i none) H' } (σ.set i (some (.ref a))) H) ∧
      (b = false → wAll K Wout D r cls d σ H)
inductive HdAll (X : Cx) : List ExceptHandler → List (Value × Option Nat × HTs) → Prop
  | nil : HdAll X [] []
  | cons {x : Str} {c : Value} {ts : HTs} {b₀ : Stmt} {suite : List Stmt} {np pos' : Pos} {hds : List ExceptHandler} {l : List (Value × Option Nat × HTs)} (hc : Names X x c)
      (hsu : ∀ (a : Addr) (oe : Obj) (cls : Value) (d : Option Addr) (pn : List (Addr × Obj)), Zc cls d oe → (∃ vs, oe.data = .fields vs) → PSs (X.suite a ((a, oe) :: pn)) (b₀ :: suite) (ts a cls d)) (r : HdAll X hds l) :
      HdAll X (.ExceptHandler (some (.Name x np)) none (b₀ :: suite) pos' :: hds) ((c, none, ts) :: l)
  | as {x n : Str} {i : Nat} {c : Value} {ts : HTs} {b₀ : Stmt} {suite : List Stmt} {np pos' : Pos} {hds : List ExceptHandler} {l : List (Value × Option Nat × HTs)} (hc : Names X x c) (hi : X.N[i]? = some n) (hln : X.env.kindOf n = some .local)
      (hsu : ∀ (a : Addr) (oe : Obj) (cls : Value) (d : Option Addr) (pn : List (Addr × Obj)), Zc cls d oe → (∃ vs, oe.data = .fields vs) → PSs (X.suite a ((a, oe) :: pn)) (b₀ :: suite) (ts a cls d)) (r : HdAll X hds l) :
      HdAll X (.ExceptHandler (some (.Name x np)) (some n) (b₀ :: suite) pos' :: hds) ((c, some i, ts) :: l)
section
variable {X : Cx} {body : List Stmt} {h₀ : ExceptHandler} {hds : List ExceptHandler} {l : List (Value × Option Nat × HTs)} {pos : Pos} {tb : WX → TS} {Wout : WX}
theorem ps_try_all (hs : X.stack = X.env :: X.outer) (hf : X.env.frame = some X.env.locals) (hN : X.N.Nodup) (tk : Takes X Wout)
    (hb : ∀ (W : WX) (pn : List (Addr × Obj)) (xe : Value → Shared → Prop), Takes (X.tr pn xe) W → PassesOwn (model X.prog X.w) X.A X.env xe → PSs (X.tr pn xe) body (tb W))
    (hh : HdAll X (h₀ :: hds) l) : PS X (.Try body (h₀ :: hds) [] [] pos) (fun D σ H => tb (wAll X.K Wout D l) D σ H) := by
  refine ⟨fun pins s σ H D I h => ?_⟩
  have ok := I.ok
  have hfr : X.A.frames = some (X.env :: X.outer) := by rw [ok.frames, hs]
  refine wpAny_Try_except ?_
  refine wpAny_mono ((hb (wAll X.K Wout D l) (X.pn ++ pins) (fun e s₁ => wpAny (model X.prog X.w) X.A (noteFrame e X.env) (fun _ s₂ => wpAny (model X.prog X.w) X.A (setFlight e none) (fun _ s₃ =>
    wpAny (model X.prog X.w) X.A (handleBy e X.env (h₀ :: hds)) (SP X pins D) X.xe s₃) X.xe s₂) X.xe s₁) (fun u s' xx => ?_) PassesOwn.looking).run [] s σ H D (I.toTry _) h) (fun f s1 hsp => ?_) (fun e s1 he => he)
  · -- the catch
    obtain ⟨a, B, sI, pins', σ', H', cls, d, rfl, J', nb, up, sky, na, os, ag, w⟩ := xx
    have J : Inv X pins σ' H' sI := J'.ofTry ok
    have sky' : Sky B (X.env :: X.outer) a (Zc cls d) X.env.locals s'.heap := by rw [← hs]; exact sky
    show wpAny (model X.prog X.w) X.A (noteFrame (.ref a) X.env) _ _ _
    refine Sky.land Zc.steady hfr hf sky' fun h3 fl3 up3 => ?_
    have J3 : Inv X pins σ' H' { s' with heap := h3 } := J.landed nb fl3.1 (up.trans up3) os ag
    obtain ⟨oe3, vs3, he3, hz3, hd3⟩ := fl3.there
    have notFr : ∀ {h : Heap} {o : Obj} {vs : Array Value}, h.FunFrames B (X.env :: X.outer) → h.get? a = some o → o.data = .fields vs → a ∉ frs (X.env :: X.outer) := fun {h o vs} ff e dd hm => by
      obtain ⟨_, o', e', hnf⟩ := ff.mem hm
      rw [e] at e'; cases e'
      exact hnf _ dd
    have nfr := notFr fl3.2.2.1 he3 hd3
    have nL : a ≠ X.env.locals := fun z => nfr (List.mem_filterMap.mpr ⟨X.env, List.mem_cons_self, by rw [hf, z]⟩)
    have nF : a ∉ X.fs := fun hm => by
      obtain ⟨e, he, q⟩ := List.mem_filterMap.mp hm
      exact nfr (List.mem_filterMap.mpr ⟨e, List.mem_cons_of_mem _ he, q⟩)
    have S3 := J3.suite he3 hd3 na nL nF
    have LT : PySem.W.Looks (model X.prog X.w) h3 (typeOf (.ref a)) cls := fun A Q E s k q => wpAny_typeOf_ref (k _ _ he3) (by rw [hz3.1]; exact q)
    have test : ∀ {x : Str} {c : Value} {np : Pos} {Q : Value → Shared → Prop} {E : Value → Shared → Prop}, Names X x c → Q c { s' with heap := h3 } → wpAny (model X.prog X.w) (X.A.mark (some (.ref a))) (eval (.Name x np) X.env) Q E { s' with heap := h3 } := fun {x c np Q E} hc q => by
      obtain ⟨hg, hdbg, hm | ⟨hm, hv, hnn⟩⟩ := hc
      · exact ld_glob (X := X.suite a ((a, oe3) :: (X.pn ++ pins))) S3 hg hm q hdbg
      · exact ld_blt (X := X.suite a ((a, oe3) :: (X.pn ++ pins))) S3 hg hm hv q hnn hdbg
    have go : ∀ {hds' : List ExceptHandler} {l' : List (Value × Option Nat × HTs)}, HdAll X hds' l' → wAll X.K Wout D l' cls d σ' H' →
        wpAny (model X.prog X.w) X.A (handleBy (.ref a) X.env hds') (SP X pins D) X.xe { s' with heap := h3 } := by
      intro hds' l' hk
      induction hk with
      | nil =>
        intro w
        refine wpAny_handleBy_nil ?_
        obtain ⟨k1, k2, k3, oe, vs, T, oT, ts', he, hz, hd, h1, hr⟩ := id fl3
        unfold PySem.passOn
        refine wpAny_bind (wpAny_field he hd h1 ?_)
        rw [if_neg (show ¬ ((Value.ref T == Value.none) = true) from by simp)]
        have fin : wpAny (model X.prog X.w) X.A (setFlight (.ref a) X.env.frame) (fun _ s4 => wpAny (model X.prog X.w) X.A (throw (.ref a) : Sem Flow) (SP X pins D) X.xe s4) X.xe { s' with heap := h3 } := by
          rw [hf]
          refine HandSPX.setFlight_upZ fl3 fun h4 hh4 up4 => wpAny_throw (tk _ _ ?_)
          exact ⟨a, B, sI, pins, σ', H', cls, d, rfl, J, nb, (up.trans up3).trans up4, .inr (.inr (by rw [hs]; exact hh4)), na, os, ag, w⟩
        first
          | exact wpAny_bind (wpAny_pure (wpAny_bind fin))
          | exact wpAny_bind fin
      | @cons x c ts b₀ suite np pos' hds2 l2 hc hsu r ih =>
        intro w
        obtain ⟨b, hb1, hyes, hno⟩ := w
        refine wpAny_handleBy_cons (codeAny_handlers_test ?_) (by intro q; cases q)
        have LM := PySem.W.exm_one (M := model X.prog X.w) (J3.kIn) LT hb1
        refine test hc (LM.here ?_)
        cases b with
        | true =>
          refine codeAny_handlers_suite ?_
          refine HandSPX.lands_againZ fl3 fun h4 fl4 up4 => ?_
          have J4 : Inv X pins σ' H' { s' with heap := h4 } := J.landed nb fl4.1 ((up.trans up3).trans up4) os ag
          obtain ⟨oe4, vs4, he4, hz4, hd4⟩ := fl4.there
          have S4 := J4.suite he4 hd4 na nL nF
          refine wpAny_mono ((hsu a oe4 cls d (X.pn ++ pins) hz4 ⟨_, hd4⟩).run [] _ _ H' _ S4 (hyes rfl a na)) (fun f s6 hsp => ?_) (fun _ _ z => False.elim z)
          cases f with
          | next =>
            obtain ⟨σ6, H6, S6, q6⟩ := hsp
            exact ⟨_, _, S6.unsuite ok, q6⟩
          | brk =>
            obtain ⟨σ6, H6, S6, q6⟩ := hsp
            exact ⟨_, _, S6.unsuite ok, q6⟩
          | cont =>
            obtain ⟨σ6, H6, S6, q6⟩ := hsp
            exact ⟨_, _, S6.unsuite ok, q6⟩
          | ret u =>
            obtain ⟨v6, σ6, H6, S6, r6, q6⟩ := hsp
            exact ⟨_, _, _, S6.unsuite ok, r6, q6⟩
        | false =>
          show wpAny _ X.A (handleBy (.ref a) X.env hds2) _ _ _
          exact ih (hno rfl)
      | @as x n i c ts b₀ suite np pos' hds2 l2 hc hi hln hsu r ih =>
        intro w
        have hloc : Loc X.env.scope n := .inl hln
        obtain ⟨b, hb1, hyes, hno⟩ := w
        refine wpAny_handleBy_cons (codeAny_handlers_test ?_) (by intro q; cases q)
        have LM := PySem.W.exm_one (M := model X.prog X.w) (J3.kIn) LT hb1
        refine test hc (LM.here ?_)
        cases b with
        | true =>
          refine codeAny_handlers_suite_as ?_
          refine HandSPX.lands_againZ fl3 fun h4 fl4 up4 => ?_
          have J4 : Inv X pins σ' H' { s' with heap := h4 } := J.landed nb fl4.1 ((up.trans up3).trans up4) os ag
          obtain ⟨oe4, vs4, he4, hz4, hd4⟩ := fl4.there
          have S4 := J4.suite he4 hd4 na nL nF
          refine store_ok (X := X.suite a ((a, oe4) :: (X.pn ++ pins))) (v := .ref a) S4 hN hi hloc rfl (fun s5 S5 => ?_) (.inr hln)
          refine wpAny_mono ((hsu a oe4 cls d (X.pn ++ pins) hz4 ⟨_, hd4⟩).run [] s5 _ H' _ S5 (hyes rfl a na)) (fun f s6 hsp => ?_) (fun _ _ z => False.elim z)
          have end_ : ∀ {σ6 : St} {H6 : Hp} {Q : Shared → Prop}, Inv (X.suite a ((a, oe4) :: (X.pn ++ pins))) [] σ6 H6 s6 → (∀ s7, Inv X pins (σ6.set i none) H6 s7 → Q s7) →
              wpAny (model X.prog X.w) X.A (do bindName X.env n .none; unbindBehindTheSuite X.env n pos') (fun _ s7 => Q s7) X.xe s6 := fun {σ6 H6 Q} S6 hq => gone_ok (S6.unsuite ok) hN hi hln hq
          cases f with
          | next =>
            obtain ⟨σ6, H6, S6, q6⟩ := hsp
            exact end_ S6 fun s7 J7 => ⟨_, _, J7, q6⟩
          | brk =>
            obtain ⟨σ6, H6, S6, q6⟩ := hsp
            exact end_ S6 fun s7 J7 => ⟨_, _, J7, q6⟩
          | cont =>
            obtain ⟨σ6, H6, S6, q6⟩ := hsp
            exact end_ S6 fun s7 J7 => ⟨_, _, J7, q6⟩
          | ret u =>
            obtain ⟨v6, σ6, H6, S6, r6, q6⟩ := hsp
            exact end_ S6 fun s7 J7 => ⟨_, _, _, J7, r6, q6⟩
        | false =>
          show wpAny _ X.A (handleBy (.ref a) X.env hds2) _ _ _
          exact ih (hno rfl)
    exact go hh w
  · cases f with
    | next =>
      obtain ⟨σ', H', J', q⟩ := hsp
      exact wpAny_execs_nil ⟨σ', H', J'.ofTry ok, q⟩
    | brk =>
      obtain ⟨σ', H', J', q⟩ := hsp
      exact ⟨σ', H', J'.ofTry ok, q⟩
    | cont =>
      obtain ⟨σ', H', J', q⟩ := hsp
      exact ⟨σ', H', J'.ofTry ok, q⟩
    | ret u =>
      obtain ⟨v, σ', H', J', r, q⟩ := hsp
      exact ⟨v, σ', H', J'.ofTry ok, r, q⟩
end
end L2
end
section
set_option Elab.async false
set_option linter.all false
set_option maxRecDepth 100000
set_option maxHeartbeats 2000000
/-! VL12: try at the value layer; error.f; repr; lambdas without parameters handed to a def. -/
namespace VL
open PySem PySem.Spec L2
open PyProof.Rows hiding St
abbrev Ctx.wx (C : Ctx) (x : Option (Addr × Value × Option Addr)) : Ctx := { C with xs := x }
mutual
def D.noX : D → Bool
  | .non => true
  | .bl _ => true
  | .int _ => true
  | .str _ => true
  | .tup xs => D.noXs xs
  | .tupx xs => D.noXs xs
  | .lst xs => D.noXs xs
  | .dic ks vs => D.noXs ks && D.noXs vs
  | .obj _ fs => D.noXs fs
  | .fn _ => true
  | .exc _ _ => false
def D.noXs : List D → Bool
  | [] => true
  | x :: xs => x.noX && D.noXs xs
end
section
variable {K : PySem.W.Frag} {C : Ctx} {F : Addr → Prop} {H : Hp} {y : Option (Addr × Value × Option Addr)}
mutual
theorem Rep.up (h : C.xs = none) : ∀ {d : D} {v : V}, Rep K C F H d v → Rep K (C.wx y) F H d v
  | _, _, .non => .non
  | _, _, .bl b => .bl b
  | _, _, .int i => .int i
  | _, _, .str x => .str x
  | _, _, .tup a r => .tup a (RepL.up h r)
  | _, _, .tupx a b r => .tupx a b (RepL.up h r)
  | _, _, .lst a r => .lst a (RepL.up h r)
  | _, _, .dic a b c r s => .dic a b c (RepL.up h r) (RepL.up h s)
  | _, _, .obj a b c d r => .obj a b c d (RepL.up h r)
  | _, _, .raw a b c => .raw a b c
  | _, _, .fn a => .fn a
  | _, _, .exc e _ _ _ _ => by rw [h] at e; cases e
theorem RepL.up (h : C.xs = none) : ∀ {ds : List D} {vs : List V}, RepL K C F H ds vs → RepL K (C.wx y) F H ds vs
  | _, _, .nil => .nil
  | _, _, .cons r t => .cons (Rep.up h r) (RepL.up h t)
end
mutual
theorem Rep.down : ∀ {d : D} {v : V}, d.noX = true → Rep K (C.wx y) F H d v → Rep K C F H d v
  | _, _, _, .non => .non
  | _, _, _, .bl b => .bl b
  | _, _, _, .int i => .int i
  | _, _, _, .str x => .str x
  | _, _, h, .tup a r => .tup a (RepL.down (by simpa only [D.noX] using h) r)
  | _, _, h, .tupx a b r => .tupx a b (RepL.down (by simpa only [D.noX] using h) r)
  | _, _, h, .lst a r => .lst a (RepL.down (by simpa only [D.noX] using h) r)
  | _, _, h, .dic a b c r s => by
    rw [D.noX, Bool.and_eq_true] at h
    exact .dic a b c (RepL.down h.1 r) (RepL.down h.2 s)
  | _, _, h, .obj a b c d r => .obj a b c d (RepL.down (by simpa only [D.noX] using h) r)
  | _, _, _, .raw a b c => .raw a b c
  | _, _, _, .fn a => .fn a
  | _, _, h, .exc _ _ _ _ _ => by rw [D.noX] at h; cases h
theorem RepL.down : ∀ {ds : List D} {vs : List V}, D.noXs ds = true → RepL K (C.wx y) F H ds vs → RepL K C F H ds vs
  | _, _, _, .nil => .nil
  | _, _, h, .cons r t => by
    rw [D.noXs, Bool.and_eq_true] at h
    exact .cons (Rep.down h.1 r) (RepL.down h.2 t)
end
end
def Sl.noX : Sl → Bool
  | .no => true
  | .v d => d.noX
  | .o ds => D.noXs ds
  | .w es => D.noXs (es.map (·.2))
section
variable {K : PySem.W.Frag} {C : Ctx} {A : Addr → Prop} {α α' : Nat → Option Addr} {ρ : Rho} {σ : L2.St} {H H' : Hp} {y : Option (Addr × Value × Option Addr)}
theorem SR.up (h : C.xs = none) (s : SR K C A α ρ σ H) : SR K (C.wx y) A α ρ σ H := ⟨s.len, s.inj, s.out, fun i x e => by
  have q := s.sl i x e
  cases x with
  | no => exact q
  | v d => obtain ⟨e1, v, e2, r⟩ := q; exact ⟨e1, v, e2, r.up h⟩
  | o ds => obtain ⟨a, vs, e1, e2, e3, r⟩ := q; exact ⟨a, vs, e1, e2, e3, r.up h⟩
  | w es => obtain ⟨a, vs, e1, e2, e3, e4, r⟩ := q; exact ⟨a, vs, e1, e2, e3, e4, r.up h⟩, s.dom, s.na, s.tabs⟩
theorem SR.down (h : ρ.all Sl.noX = true) (s : SR K (C.wx y) A α ρ σ H) : SR K C A α ρ σ H := ⟨s.len, s.inj, s.out, fun i x e => by
  have q := s.sl i x e
  have hx : x.noX = true := List.all_eq_true.mp h x (List.mem_of_getElem? e)
  cases x with
  | no => exact q
  | v d => obtain ⟨e1, v, e2, r⟩ := q; exact ⟨e1, v, e2, r.down hx⟩
  | o ds => obtain ⟨a, vs, e1, e2, e3, r⟩ := q; exact ⟨a, vs, e1, e2, e3, r.down hx⟩
  | w es => obtain ⟨a, vs, e1, e2, e3, e4, r⟩ := q; exact ⟨a, vs, e1, e2, e3, e4, r.down hx⟩, s.dom, s.na, s.tabs⟩
theorem Stp.wx (s : Stp (C.wx y) α H α' H') : Stp C α H α' H' := ⟨s.kp, s.tb, s.nn, s.new, s.z⟩
end
/-! ### clauses -/
structure Hd where
  cv : Value
  hm : Nat → Option Bool
  oi : Option Nat
  f : Rho → SRes
def noE : SRes → SRes
  | .ex _ _ _ => .bad
  | r => r
def clrR (i : Nat) (ρ : Rho) : Option Rho := if notOwn ρ[i]? && (ρ.set i .no).all Sl.noX then some (ρ.set i .no) else none
def clrS (i : Nat) : SRes → SRes
  | .nx ρ => (match clrR i ρ with | some ρ' => .nx ρ' | none => .bad)
  | .bk ρ => (match clrR i ρ with | some ρ' => .bk ρ' | none => .bad)
  | .ct ρ => (match clrR i ρ with | some ρ' => .ct ρ' | none => .bad)
  | .rt d ρ => (match clrR i ρ with | some ρ' => if d.noX then .rt d ρ' else .bad | none => .bad)
  | _ => .bad
def hdl (fld : Nat → Option Str) : List Hd → Nat → D → Rho → SRes
  | [], c, p, ρ => .ex c p ρ
  | h :: r, c, p, ρ => match h.hm c with
    | some true => (match h.oi with
      | none => noE (h.f ρ)
      | some i => if (fld c).isSome && decide (i < ρ.length) && notOwn ρ[i]? then clrS i (h.f (ρ.set i (.v (.exc c p)))) else .bad)
    | some false => hdl fld r c p ρ
    | none => .bad
def sTry (fld : Nat → Option Str) (f : Rho → SRes) (l : List Hd) : Rho → SRes := fun ρ => match f ρ with
  | .ex c p ρ' => hdl fld l c p ρ'
  | r => r
abbrev W0 : WX := fun _ _ _ _ => False
section
variable {X : Cx} {C : Ctx}
inductive HdsV (X : Cx) (C : Ctx) : List ExceptHandler → List Hd → Prop
  | nil : HdsV X C [] []
  | cons {x : Str} {c : Value} {hm : Nat → Option Bool} {f : Rho → SRes} {b₀ : Stmt} {suite : List Stmt} {np pos' : Pos} {hds : List ExceptHandler} {l : List Hd} (hc : Names X x c) (hh : ∀ n b, hm n = some b → PySem.W.exmOne X.K (C.cls n) c = some b)
      (hsu : ∀ (a : Addr) (oe : Obj) (cls : Value) (d : Option Addr) (pn : List (Addr × Obj)), Zc cls d oe → (∃ vs, oe.data = .fields vs) → QSs (X.suite a ((a, oe) :: pn)) C W0 (b₀ :: suite) f) (r : HdsV X C hds l) :
      HdsV X C (.ExceptHandler (some (.Name x np)) none (b₀ :: suite) pos' :: hds) (⟨c, hm, none, f⟩ :: l)
  | as {x n : Str} {i : Nat} {c : Value} {hm : Nat → Option Bool} {f : Rho → SRes} {b₀ : Stmt} {suite : List Stmt} {np pos' : Pos} {hds : List ExceptHandler} {l : List Hd} (hc : Names X x c) (hi : X.N[i]? = some n) (hln : X.env.kindOf n = some .local)
      (hh : ∀ n b, hm n = some b → PySem.W.exmOne X.K (C.cls n) c = some b)
      (hsu : ∀ (a : Addr) (oe : Obj) (cls : Value) (d : Option Addr) (pn : List (Addr × Obj)), Zc cls d oe → (∃ vs, oe.data = .fields vs) → QSs (X.suite a ((a, oe) :: pn)) (C.wx (some (a, cls, d))) W0 (b₀ :: suite) f) (r : HdsV X C hds l) :
      HdsV X C (.ExceptHandler (some (.Name x np)) (some n) (b₀ :: suite) pos' :: hds) (⟨c, hm, some i, f⟩ :: l)
def Hd.ts (K : PySem.W.Frag) (C : Ctx) (h : Hd) : HTs := match h.oi with
  | none => fun _ _ _ => rdS K C W0 h.f
  | some _ => fun a cls d => rdS K (C.wx (some (a, cls, d))) W0 h.f
theorem HdsV.all {hds : List ExceptHandler} {l : List Hd} (h : HdsV X C hds l) : HdAll X hds (l.map fun h => (h.cv, h.oi, h.ts X.K C)) := by
  induction h with
  | nil => exact .nil
  | cons hc hh hsu r ih => exact .cons hc (fun a oe cls d pn hz hf => hsu a oe cls d pn hz hf) ih
  | as hc hi hln hh hsu r ih => exact .as hc hi hln (fun a oe cls d pn hz hf => hsu a oe cls d pn hz hf) ih
theorem HdsV.ok {hds : List ExceptHandler} {l : List Hd} (h : HdsV X C hds l) : ∀ x ∈ l, ∀ n b, x.hm n = some b → PySem.W.exmOne X.K (C.cls n) x.cv = some b := by
  induction h with
  | nil => exact fun x hx => nomatch hx
  | cons hc hh hsu r ih => exact fun x hx => (List.mem_cons.mp hx).elim (fun e => by subst e; exact hh) (ih x)
  | as hc hi hln hh hsu r ih => exact fun x hx => (List.mem_cons.mp hx).elim (fun e => by subst e; exact hh) (ih x)
theorem hdl_w {K : PySem.W.Frag} {W : WX} {A : Addr → Prop} {α0 : Nat → Option Addr} {H0 : Hp} {Dn : Ends} {c : Nat} {p : D} {o : Option Addr} (hx : C.xs = none) :
    ∀ {l : List Hd}, (∀ x ∈ l, ∀ n b, x.hm n = some b → PySem.W.exmOne K (C.cls n) x.cv = some b) → ∀ {ρ : Rho}, PostS K C W A α0 H0 Dn (hdl C.fld l c p ρ) → ∀ {α : Nat → Option Addr} {σ : L2.St} {H : Hp}, SR K C A α ρ σ H → Stp C α0 H0 α H → XR K C (Fb A α) H c p o →
      wAll K W Dn (l.map fun h => (h.cv, h.oi, h.ts K C)) (C.cls c) o σ H
  | [], _, ρ, q, α, σ, H, s, t, x => q α σ o H s t x
  | ⟨cv, hm, oi, f⟩ :: l, hh, ρ, q, α, σ, H, s, t, x => by
    have hh' : ∀ y ∈ l, ∀ n b, y.hm n = some b → PySem.W.exmOne K (C.cls n) y.cv = some b := fun y hy => hh y (List.mem_cons_of_mem _ hy)
    have h0 := hh _ List.mem_cons_self c
    unfold hdl at q
    dsimp only at q h0
    cases hb : hm c with
    | none => simp only [hb] at q; exact q.elim
    | some b =>
      have hb0 := h0 b hb
      simp only [hb] at q
      cases oi with
      | none =>
        refine ⟨b, hb0, fun e a na => ?_, fun e => ?_⟩
        · subst e
          refine ⟨A, α, ρ, s, ?_⟩
          show PostS K C W0 A α H Dn (f ρ)
          dsimp only at q
          cases hf : f ρ with
          | ex c' p' ρ' => rw [hf] at q; exact q.elim
          | bad => rw [hf] at q; exact q.elim
          | nx ρ' => rw [hf] at q; exact q.step t
          | bk ρ' => rw [hf] at q; exact q.step t
          | ct ρ' => rw [hf] at q; exact q.step t
          | rt d ρ' => rw [hf] at q; exact q.step t
        · subst e
          exact hdl_w hx hh' q s t x
      | some i =>
        refine ⟨b, hb0, fun e a na => ?_, fun e => ?_⟩
        · subst e
          dsimp only at q
          by_cases hc : ((C.fld c).isSome && decide (i < ρ.length) && notOwn ρ[i]?) = true
          · rw [if_pos hc] at q
            simp only [Bool.and_eq_true, decide_eq_true_eq] at hc
            obtain ⟨⟨hc1, hc2⟩, hc3⟩ := hc
            obtain ⟨fn, hfn⟩ := Option.isSome_iff_exists.mp hc1
            unfold XR at x
            rw [hfn] at x
            obtain ⟨dd, v, rfl, x1, x2, x3⟩ := x
            have su : SR K (C.wx (some (a, C.cls c, some dd))) A α ρ σ H := s.up hx
            have s2 : SR K (C.wx (some (a, C.cls c, some dd))) A α (ρ.set i (.v (.exc c p))) (σ.set i (some (.ref a))) H :=
              su.setV (su.notOwn hc3) (.exc rfl hfn x1 x2 (x3.up hx))
            refine ⟨A, α, _, s2, ?_⟩
            show PostS K (C.wx (some (a, C.cls c, some dd))) W0 A α H _ (f (ρ.set i (.v (.exc c p))))
            have dn : ∀ {ρ' ρ2 : Rho} {α' : Nat → Option Addr} {σ' : L2.St} {H' : Hp}, clrR i ρ' = some ρ2 → SR K (C.wx (some (a, C.cls c, some dd))) A α' ρ' σ' H' → SR K C A α' ρ2 (σ'.set i none) H' := fun {ρ' ρ2 α' σ' H'} e s' => by
              obtain ⟨e1, rfl⟩ := if_some e
              rw [Bool.and_eq_true] at e1
              exact (s'.setN (s'.notOwn e1.1)).down e1.2
            cases hf : f (ρ.set i (.v (.exc c p))) with
            | ex c' p' ρ' => rw [hf] at q; exact q.elim
            | bad => rw [hf] at q; exact q.elim
            | nx ρ' =>
              rw [hf] at q
              unfold clrS at q
              cases hcl : clrR i ρ' with
              | none => simp only [hcl] at q; exact q.elim
              | some ρ2 =>
                simp only [hcl] at q
                exact fun α' σ' H' s' t' => q α' _ H' (dn hcl s') (t.trans t'.wx)
            | bk ρ' =>
              rw [hf] at q
              unfold clrS at q
              cases hcl : clrR i ρ' with
              | none => simp only [hcl] at q; exact q.elim
              | some ρ2 =>
                simp only [hcl] at q
                exact fun α' σ' H' s' t' => q α' _ H' (dn hcl s') (t.trans t'.wx)
            | ct ρ' =>
              rw [hf] at q
              unfold clrS at q
              cases hcl : clrR i ρ' with
              | none => simp only [hcl] at q; exact q.elim
              | some ρ2 =>
                simp only [hcl] at q
                exact fun α' σ' H' s' t' => q α' _ H' (dn hcl s') (t.trans t'.wx)
            | rt d ρ' =>
              rw [hf] at q
              unfold clrS at q
              cases hcl : clrR i ρ' with
              | none => simp only [hcl] at q; exact q.elim
              | some ρ2 =>
                simp only [hcl] at q
                by_cases hd : d.noX = true
                · rw [if_pos hd] at q
                  exact fun α' σ' v H' s' t' r => q α' _ v H' (dn hcl s') (t.trans t'.wx) (r.down hd)
                · rw [if_neg hd] at q
                  exact q.elim
          · rw [if_neg hc] at q
            exact q.elim
        · subst e
          exact hdl_w hx hh' q s t x
/-- try .. except .. -/
theorem qs_try {W : WX} {body : List Stmt} {h₀ : ExceptHandler} {hds : List ExceptHandler} {l : List Hd} {f : Rho → SRes} {pos : Pos} {fld : Nat → Option Str} (hfl : C.fld = fld) (hxs : C.xs = none) (hs : X.stack = X.env :: X.outer) (hf : X.env.frame = some X.env.locals) (hN : X.N.Nodup) (tk : Takes X W)
    (hb : ∀ (W : WX) (pn : List (Addr × Obj)) (xe : Value → Shared → Prop), Takes (X.tr pn xe) W → QSs (X.tr pn xe) C W body f)
    (hh : HdsV X C (h₀ :: hds) l) : QS X C W (.Try body (h₀ :: hds) [] [] pos) (sTry fld f l) :=
  wkS (ps_try_all (tb := fun W => rdS X.K C W f) hs hf hN tk (fun W pn xe tk _ => hb W pn xe tk) hh.all) fun Dn σ H ⟨A, α, ρ, sr, q⟩ => by
    subst hfl
    refine ⟨A, α, ρ, sr, ?_⟩
    unfold sTry at q
    cases hf : f ρ with
    | ex c p ρ' =>
      rw [hf] at q
      exact fun α' σ' o H' s t x => hdl_w hxs hh.ok q s t x
    | bad => rw [hf] at q; exact q.elim
    | nx ρ' => rw [hf] at q; exact q
    | bk ρ' => rw [hf] at q; exact q
    | ct ρ' => rw [hf] at q; exact q
    | rt d ρ' => rw [hf] at q; exact q
/-- error.f -/
def xfQ (c0 : Nat) (fe : Rho → Option D) : Rho → Option D := fun ρ => (fe ρ).bind fun d => match d with
  | .exc c p => if decide (c = c0) then some p else none
  | _ => none
theorem qe_xf {a cA : Addr} {oe : Obj} {cls : Value} {d : Option Addr} {pn : List (Addr × Obj)} {e : Expr} {fe : Rho → Option D} {pos : Pos} {n : Str} {c0 : Nat} (hcl : C.cls c0 = .ref cA) (hfl : C.fld c0 = some n) (T : XfC X.K cA) (hno : PySem.W.findIn X.K (.ref cA) n = some none)
    (hz : Zc cls d oe) (hf : ∃ vs, oe.data = .fields vs) (he : QE (X.suite a ((a, oe) :: pn)) (C.wx (some (a, cls, d))) e fe) (hb : attributeBase e n X.env (eval e X.env) = eval e X.env := by rfl) :
    QE (X.suite a ((a, oe) :: pn)) (C.wx (some (a, cls, d))) (.Attribute e n pos) (xfQ c0 fe) :=
  wkE (pe_xf T hno hz hf he hb) fun σ H Q ⟨A, α, ρ, dv, sr, q1, q⟩ => by
    obtain ⟨x, e1, e2⟩ := bind_some q1
    cases x <;> first | cases e2 | skip
    rename_i c p
    obtain ⟨hc, rfl⟩ := if_some e2
    obtain rfl := of_decide_eq_true hc
    refine ⟨A, α, ρ, _, sr, e1, fun v H1 g1 r1 => ?_⟩
    cases r1 with
    | exc h1 h2 h3 h4 r =>
      rename_i a' dd f' v'
      have h1 : some (a, cls, d) = some (a', C.cls c, some dd) := h1
      cases h1
      have h2 : C.fld c = some f' := h2
      rw [hfl] at h2
      cases h2
      exact ⟨rfl, hcl, dd, _, v', rfl, h4, by simp [List.lookup], q v' H1 g1 r⟩
end
end VL
end
section
set_option Elab.async false
set_option linter.all false
set_option maxRecDepth 100000
set_option maxHeartbeats 2000000
/-! VL13: g(lambda: e), g a def that calls it within a try (lines of HandS.Lambda, turned). -/
namespace VL
open PySem PySem.Spec L2
open PyProof.Rows hiding St
open LamX
section
variable {X : Cx} {pins : List (Addr × Obj)} {σ : L2.St} {H : Hp} {s : Shared}
/-- a lambda made: HandS's, with what stays free told too -/
theorem lam_make3 {T : List (Addr × Str)} {c P : Addr} {params : Arguments} {body : Expr} {scope : Scope} {pos : Pos} {E : Value → Shared → Prop} {Q : Value → Shared → Prop} (I : Inv X pins σ H s) (TB : TabB X.base X.mg c P) (hcode : X.env.code = .ref c)
    (hm : (P, X.env.qual ++ "<lambda>") ∈ T) (hu : ∀ p ∈ T, p.1 = P → p.2 = X.env.qual ++ "<lambda>") (hT : Tabs T H) (hdef : defaultsOf params X.env = ([], [])) (hfree : ∀ y ∈ scope.names, y.2 = .free → ∃ c, X.env.cells.lookup y.1 = some c)
    (h : ∀ (f c' : Addr) (pm ctv : Value) (H1 : Hp) (s' : Shared), Inv X pins σ H1 s' → ExtN H H1 → (∀ b, H1 b = none → H b = none) → Tabs T H1 →
      s'.heap.get? f = some (PySem.W.kla_obj "<lambda>" (X.env.qual ++ "<lambda>") params body scope (cloFrom X.env.cells scope.names []) pm c' ctv) → H1 f = none → f ∉ frs X.stack → H1 c' = some (CodeO c' (X.env.qual ++ "<lambda>")) → Q (.ref f) s') :
    wpAny (model X.prog X.w) X.A (eval (.Lambda params body scope pos) X.env) Q E s := by
  obtain ⟨ps, hP, ht, ha⟩ := hT _ hm
  refine PySem.W.kla_eval hdef ?_
  have bP : s.heap.BuiltinsAt X.mg P := TB.bm.keeps I.bk
  have hP' : s.heap.get? P = some { cls := .none, data := .fields ps } := I.hok P _ hP
  have nofr : ∀ f, s.heap.objs.size ≤ f → f ∉ frs X.stack := fun f hf z => by
    rcases List.mem_cons.mp (I.stkSub _ z) with e | e
    · have h1 := I.lt
      rw [← e] at h1
      exact Nat.lt_irrefl _ (Nat.lt_of_lt_of_le h1 hf)
    · exact I.nofs hf e
  cases hc : codeAmong pos ps.toList with
  | none =>
    refine PySem.W.kla_makeFunction (mg := X.mg) (c := c) (P := P) (ps := ps) (closure_ok hfree) I.ok.glob (I.mod.glob.keeps I.bk) hcode (TB.code.keeps I.bk) hP' ht hc TB.gP bP fun c' ctv h' tk hx hge hlt hrec htb => ?_
    obtain ⟨c2, oc, vs, t, e2, hoc, hd, hv⟩ := hrec
    cases e2
    have hsz : s.heap.objs.size ≤ h'.objs.size := Nat.le_trans hge (Nat.le_of_lt hlt)
    have nC : H c' = none := I.hok.fresh hge
    have I1 := inv_table (t' := tk) (more := #[rawInt pos.line, rawInt pos.col, .ref c']) (h' := h'.push (PySem.W.kla_obj "<lambda>" (X.env.qual ++ "<lambda>") params body scope (cloFrom X.env.cells scope.names []) ((X.mg "__name__").getD .none) c' ctv)) I hP
      (fun b o hb e => Heap.get?_push_of_some _ (hx b o hb e)) (Heap.get?_push_of_some _ htb) hge ⟨oc, vs, t, Heap.get?_push_of_some _ hoc, hd, hv⟩
    have hE : ExtN H (upd (upd H P (.tbl (ps ++ #[rawInt pos.line, rawInt pos.col, .ref c']))) c' (CodeO c' (X.env.qual ++ "<lambda>"))) := fun b o e n => by
      rw [upd_ne (ne_of_none e nC), upd_ne (fun z => n ps (Option.some.inj (e.symm.trans (by rw [z]; exact hP))))]
      exact e
    have eL : (ps ++ #[rawInt pos.line, rawInt pos.col, .ref c']).toList = ps.toList ++ [rawInt pos.line, rawInt pos.col, .ref c'] := by simp
    refine h h'.objs.size c' ((X.mg "__name__").getD .none) ctv _ _ I1 hE (fun b hb => ?_) (fun p hp => ?_) (Heap.get?_push_size _ rfl) ?_ (nofr _ hsz) upd_same
    · by_cases h1 : b = c'
      · rw [h1]; exact nC
      · rw [upd_ne h1] at hb
        by_cases h2 : b = P
        · rw [h2, upd_same] at hb; cases hb
        · rw [upd_ne h2] at hb; exact hb
    · by_cases hb : p.1 = P
      · rw [hu p hp hb, hb]
        refine ⟨_, by rw [upd_ne (ne_of_none hP nC), upd_same], by rw [eL]; exact PySem.TriplesOk_snoc _ _ _ _ ht, fun p' cv hcv => ?_⟩
        rw [eL] at hcv
        rcases among_app _ ht hcv with z | z
        · obtain ⟨c0, e1, e2⟩ := ha p' cv z
          exact ⟨c0, e1, hE _ _ e2 codeO_ne⟩
        · exact ⟨c', z, upd_same⟩
      · obtain ⟨ps', a1, a2, a3⟩ := hT p hp
        refine ⟨ps', by rw [upd_ne (ne_of_none a1 nC), upd_ne hb]; exact a1, a2, fun p' cv hcv => ?_⟩
        obtain ⟨c0, e1, e2⟩ := a3 p' cv hcv
        exact ⟨c0, e1, hE _ _ e2 codeO_ne⟩
    · have n1 : h'.objs.size ≠ c' := Nat.ne_of_gt hlt
      have n2 : h'.objs.size ≠ P := Nat.ne_of_gt (Nat.lt_of_lt_of_le (Heap.lt_size hP') hsz)
      rw [upd_ne n1, upd_ne n2]
      exact I.hok.fresh hsz
  | some cv =>
    obtain ⟨c', e, hco⟩ := ha pos cv hc
    subst e
    refine PySem.W.kla_makeFunctionHit (mg := X.mg) (c := c) (P := P) (ps := ps) (closure_ok hfree) I.ok.glob (I.mod.glob.keeps I.bk) hcode (TB.code.keeps I.bk) hP' ht hc bP fun ctv h' tk hx hsz => ?_
    have I1 : Inv X pins σ H { s with heap := h'.push (PySem.W.kla_obj "<lambda>" (X.env.qual ++ "<lambda>") params body scope (cloFrom X.env.cells scope.names []) ((X.mg "__name__").getD .none) c' ctv), toks := tk } := I.kept fun b o e => Heap.get?_push_of_some _ (hx b o e)
    exact h h'.objs.size c' ((X.mg "__name__").getD .none) ctv H _ I1 (ExtN.refl H) (fun _ h => h) hT (Heap.get?_push_size _ rfl) (I.hok.fresh hsz) (nofr _ hsz) hco
/-- x(), in the def that got the lambda -/
theorem pe_actV {CXg : CXT} {Eg : XK} {Ng : List Str} {qg : Str} {sg : Scope} {g f c' : Addr} {cdg pm ctv : Value} {params : Arguments} {body : Expr} {scope : Scope} {k i : Nat} {a : Str} {pn : List (Addr × Obj)} {xe : Value → Shared → Prop} {W : WX} {tb : XK → TE} {p1 p2 : Pos}
    (I : Inv X pins σ H s) (L : LamS X.env.scope scope) (hf : s.heap.get? f = some (PySem.W.kla_obj "<lambda>" (X.env.qual ++ "<lambda>") params body scope (cloFrom X.env.cells scope.names []) pm c' ctv)) (hfn : H f = none) (hfr : f ∉ frs X.stack)
    (hbind : bindArgs (PySem.W.kla_fn "<lambda>" (X.env.qual ++ "<lambda>") params body scope (cloFrom X.env.cells scope.names []) pm (.ref c') ctv) ⟨[], []⟩ = pure [])
    (tk : Takes ((cxOf CXg X.prog X.w X.K X.mg X.base Ng qg sg g cdg X.A X.stack s H Eg).tr pn xe) W) (hr : RoomG (k + 1) (X.A.deeper (envOfC qg sg s.heap.objs.size g cdg)))
    (hbody : ∀ (A : Around) (outer : List Env) (s : Shared) (H : Hp) (E : XK), RoomG k (A.deeper (lamEnv X scope s.heap.objs.size f c')) → PE (lamCx X A outer s H E scope f c') body (tb E))
    (hN : Ng[i]? = some a) (hv : Vis sg a) (hd : (a == ("__debug__" : Str)) = false) (hcd : (a == ("__classdict__" : Str)) = false) :
    PE ((cxOf CXg X.prog X.w X.K X.mg X.base Ng qg sg g cdg X.A X.stack s H Eg).tr pn xe) (.Call (.Name a p1) [] [] p2)
      (fun σZ HZ Q => ∃ E : XK, (∀ cls d H', E cls d H' → W cls d σZ H') ∧ σZ[i]? = some (some (.ref f)) ∧ HZ c' = some (CodeO c' (X.env.qual ++ "<lambda>")) ∧ tb E σ HZ Q) := by
  refine ⟨fun pinsZ sZ σZ HZ Q IZ h => ?_⟩
  obtain ⟨E, hW, hs, hc, ht⟩ := h
  refine wpAny_Call_Name_kw (thn ((pe_var (pos := p1) (i := i) hN hv hd hcd).run pinsZ sZ σZ HZ (fun v H1 => v = .ref f ∧ H1 = HZ) IZ ⟨.ref f, hs, rfl, rfl⟩) fun u s1 ⟨v, H1, I1, r1, q1⟩ => ?_)
  obtain ⟨ev, eH⟩ := q1
  subst ev
  rw [eH] at I1
  obtain rfl : u = Value.ref f := r1
  have of1 : s1.heap.get? f = some (PySem.W.kla_obj "<lambda>" (X.env.qual ++ "<lambda>") params body scope (cloFrom X.env.cells scope.names []) pm c' ctv) := I1.base.keep f _ hf hfn hfr (fun z => nomatch (show f ∈ ([] : List Addr) from z))
  refine PySem.W.callWith_F0 ⟨_, _, _, _, of1⟩ ?_
  have un : Un (frs X.stack) [] H HZ s.heap s1.heap := I1.base
  obtain ⟨⟨oc, vs, t, hoc, hdc, hvc⟩, _, _⟩ := I1.hok c' _ hc
  have rc : codeAny (model X.prog X.w) (X.A.deeper (envOfC qg sg s.heap.objs.size g cdg)) (.call (.ref f) ⟨[], []⟩) (CR (L2.CX X.prog X.w) (envOfC qg sg s.heap.objs.size g cdg :: X.stack) X.prog X.w HZ s1 Q E) s1 := by
    refine PySem.W.kla_callFunE hr.toRoom.depth of1 rfl L.co L.gen rfl ⟨c', oc, vs, t, rfl, hoc, hdc, hvc⟩ ?_
    rw [hbind]
    refine wpAny_pure (wpAny_newFunctionEnv (fun y hy => (L.own y hy).2) (fun y hy => absurd hy (by simp)) (fun h₁ hns hsb => ⟨I1.nolimit.fresh _ hsb, ?_⟩) L.kind)
    show codeAny _ _ (.expr body (lamEnv X scope s1.heap.objs.size f c')) _ _
    have kp : ∀ b o, s1.heap.get? b = some o → h₁.get? b = some o := fun b o e => hsb.extBut b o (Nat.ne_of_lt (Heap.lt_size e)) (Heap.get?_push_of_some _ e)
    have J : Inv (lamCx X (X.A.deeper (envOfC qg sg s.heap.objs.size g cdg)) (envOfC qg sg s.heap.objs.size g cdg :: X.stack) s1 HZ E scope f c') [] σ HZ { s1 with heap := h₁, toks := s1.toks + ([] : List (Str × Value)).length } :=
      lam_start2 I L I1.env0 hr.hd un hns kp
    refine PySem.W.kla_codeExpr (wpAny_mono ((hbody _ _ s1 HZ E (hr.deeper _)).run [] _ _ HZ Q J ht) (fun v s' hq => ?_) fun e s' hq => hq)
    obtain ⟨w', H', J', rv, q⟩ := hq
    exact ⟨w', H', J'.os, J'.bare, J'.base, J'.hok, rv, q⟩
  refine wpAny_call (codeAny_mono rc fun r s' hq => ?_)
  cases r with
  | error e => exact tk e s' (XE.of_call I1 (fun cls d H' h => hW cls d H' h) hq)
  | ok fl =>
    cases fl with
    | ret u => exact I1.after hq
    | next => exact False.elim hq
    | brk => exact False.elim hq
    | cont => exact False.elim hq
end
/-! ### what such a def makes of a lambda's result -/
def WEx (E : XK) : WX := fun cls d _ H => E cls d H
/-- the exception's part: hv is what the clauses return -/
def EKv (K : PySem.W.Frag) (C : Ctx) (hv : Nat → D → Option D) (Q : VK) : XK := fun cls o H' => ∃ (A' : Addr → Prop) (c : Nat) (p d : D), cls = C.cls c ∧ DmF A' H' ∧ Tabs C.T H' ∧ XR K C A' H' c p o ∧ hv c p = some d ∧ ∀ v H'', Gro C H' H'' → Rep K C A' H'' d v → Q v H''
def QKv (K : PySem.W.Frag) (C : Ctx) (okc : Option D) (Q : VK) : VK := match okc with
  | none => Q
  | some d => fun _ H' => ∃ A' : Addr → Prop, DmF A' H' ∧ Tabs C.T H' ∧ ∀ v H'', Gro C H' H'' → Rep K C A' H'' d v → Q v H''
/-- a def that calls its only parameter: okc: what it answers if that ends well (none: just that), hv: what its clauses return -/
structure ToldOk (P : Program) (w : World) (K : PySem.W.Frag) (mg : Str → Option Value) (base : Heap) (C : Ctx) (k : Nat) (x : Str) (g : Addr) (okc : Option D) (hv : Nat → D → Option D) : Prop where
  ex : ∃ (a : Str) (Ng : List Str) (pg : Arguments) (bg : List Stmt) (sg : Scope) (dV kV doc pm cdv ct oc : Value) (an od : Option Addr) (osl : Array (Option Value)),
    K.lookup g = some ⟨oc, od, .func (PySem.W.fnOf x x pg bg sg dV kV doc pm an cdv ct), osl⟩ ∧ PySem.W.codeIn K cdv x = true ∧ L2.Binds K (PySem.W.fnOf x x pg bg sg dV kV doc pm an cdv ct) [a] [] ∧ FnScope Ng [a] sg ∧ Ng[0]? = some a ∧ Vis sg a ∧
      (a == ("__debug__" : Str)) = false ∧ (a == ("__classdict__" : Str)) = false ∧
    ∀ (A : Around) (outer : List Env) (f c' : Addr) (q : Str) (s : Shared) (H : Hp) (Q : VK) (m : Rho → Res D) (σ : L2.St), RoomG (k + 1) (A.deeper (envOfC x sg s.heap.objs.size g cdv)) →
      (∀ (W : WX) (pn : List (Addr × Obj)) (xe : Value → Shared → Prop) (p1 p2 : Pos), Takes ((cxOf C8.CX0 P w K mg base Ng x sg g cdv A outer s H C8.E0).tr pn xe) W →
        PE ((cxOf C8.CX0 P w K mg base Ng x sg g cdv A outer s H C8.E0).tr pn xe) (.Call (.Name a p1) [] [] p2)
          (fun σZ HZ Q => ∃ E : XK, (∀ cls d H', E cls d H' → W cls d σZ H') ∧ σZ[0]? = some (some (.ref f)) ∧ HZ c' = some (CodeO c' q) ∧ rdV K C (WEx E) m σ HZ Q)) →
      H c' = some (CodeO c' q) → rdV K C (WEx (EKv K C hv Q)) m σ H (QKv K C okc Q) →
      ∃ t, PSs (cxOf C8.CX0 P w K mg base Ng x sg g cdv A outer s H C8.E0).nox bg t ∧ t { nx := fun _ H' => Q .non H', rt := Q } (L2.start Ng [.ref f]) H
theorem rdV_mono {K : PySem.W.Frag} {C : Ctx} {W W' : WX} {m : Rho → Res D} {σ : L2.St} {H : Hp} {Q Q' : VK} (hW : ∀ cls d H', W cls d σ H' → W' cls d σ H') (hQ : ∀ v H', Q v H' → Q' v H') (h : rdV K C W m σ H Q) : rdV K C W' m σ H Q' := by
  obtain ⟨A, α, ρ, sr, q⟩ := h
  refine ⟨A, α, ρ, sr, ?_⟩
  cases hm : m ρ with
  | ok d ρ' => rw [hm] at q; exact fun α' v H' s t r => hQ _ _ (q α' v H' s t r)
  | ex c p ρ' => rw [hm] at q; exact fun α' o H' s t x => hW _ _ _ (q α' o H' s t x)
  | bad => rw [hm] at q; exact q
def mLam (okc : Option D) (hv : Nat → D → Option D) (m : Rho → Res D) : Rho → Res D := fun ρ => match m ρ with
  | .ok d ρ' => .ok (okc.getD d) ρ'
  | .ex c p ρ' => (match hv c p with
    | some d => .ok d ρ'
    | none => .bad)
  | .bad => .bad
theorem gro_extN {C : Ctx} {H H1 : Hp} (e : ExtN H H1) (n : ∀ b, H1 b = none → H b = none) (t : Tabs C.T H1) : Gro C H H1 :=
  ⟨fun b o h q => e b o h (q.elim (fun q ps z => q.2 ps z) fun q ps z => by rw [z] at q; exact q), fun _ => t, n⟩
section
variable {X : Cx} {C : Ctx} {W : WX}
/-- x(lambda: body) -/
theorem ve_lam {okc : Option D} {hv : Nat → D → Option D} {m : Rho → Res D} {x : Str} {g c P : Addr} {k : Nat} {params : Arguments} {body : Expr} {scope : Scope} {p lpos pos : Pos} (G : ToldOk X.prog X.w X.K X.mg X.base C k x g okc hv) (hg : Gl X x) (hm : X.mg x = some (.ref g)) (hk : PySem.W.keepIn X.K (.ref g) = true)
    (TB : TabB X.base X.mg c P) (hcode : X.env.code = .ref c) (hmT : (P, X.env.qual ++ "<lambda>") ∈ C.T) (hu : ∀ p ∈ C.T, p.1 = P → p.2 = X.env.qual ++ "<lambda>") (hr : RoomG (k + 2) X.A) (L : LamS X.env.scope scope) (hdef : defaultsOf params X.env = ([], []))
    (hbind : ∀ (q : Str) (cl : List (Str × Addr)) (pm cv ctv : Value), bindArgs (PySem.W.kla_fn "<lambda>" q params body scope cl pm cv ctv) ⟨[], []⟩ = pure [])
    (hbody : ∀ (A : Around) (outer : List Env) (s : Shared) (H : Hp) (E : XK) (f c' : Addr), RoomG k (A.deeper (lamEnv X scope s.heap.objs.size f c')) → VE (lamCx X A outer s H E scope f c') C (WEx E) body m)
    (hdb : (x == ("__debug__" : Str)) = false := by decide) :
    VE X C W (.Call (.Name x p) [.Lambda params body scope lpos] [] pos) (mLam okc hv m) := by
  refine ⟨fun pins s σ H Q I h => ?_⟩
  obtain ⟨A, α, ρ, sr, h⟩ := h
  obtain ⟨a, Ng, pg, bg, sg, dV, kV, doc, pm, cdv, ct, oc, an, od, osl, lk, hcg, hb, Sg, hNg, hva, hd, hcd, hG⟩ := G.ex
  refine wpAny_Call_Name_kw (ld_glob I hg hm ?_ hdb)
  refine PySem.W.callWith_K (h₀ := X.base) I.ok.mod.kin hk ?_ (by rfl) (by rfl)
  show wpAny _ _ (spliced ((false, eval (.Lambda params body scope lpos) X.env) :: backTo pos (starEach [] X.env))) _ _ s
  refine Calls.spliced_cons (lam_make3 I TB hcode hmT hu sr.tabs hdef (L.has I.ok) fun f c' pm' ctv H1 s' I1 eN nn T1 hf hfn hfr hco => ?_)
  refine Calls.spliced_nil ⟨I1.kIn, ?_⟩
  have rc : codeAny (model X.prog X.w) X.A (.call (.ref g) ⟨[.ref f], []⟩) (CR C8.CX0 X.stack X.prog X.w H1 s' Q C8.E0) s' := by
    refine run_ofS (k := k + 1) (N := Ng) (ps := [a]) (us := [.ref f]) (vs := [.ref f]) lk hcg Sg hr.toRoom I1.env0 (hb s' [.ref f] I1.kIn rfl) (.cons rfl .nil) rfl fun hr' => ?_
    have hrG : RoomG (k + 1) (X.A.deeper (envOfC x sg s'.heap.objs.size g cdv)) := ⟨hr', hr.gd⟩
    have hrd : rdV X.K C (WEx (EKv X.K C hv Q)) m σ H1 (QKv X.K C okc Q) := by
      have g1 : Gro C H H1 := gro_extN eN nn T1
      refine ⟨A, α, ρ, sr.grow g1, ?_⟩
      have h := PostV.step (Stp.of_gro g1) h
      unfold mLam at h
      cases hm : m ρ with
      | bad => rw [hm] at h; exact h
      | ok d ρ' =>
        rw [hm] at h
        cases okc with
        | none => exact h
        | some d0 => exact fun α' v H' s t r => ⟨Fb A α', s.dm, s.tabs, fun v' H'' g r' => h α' v' H'' (s.grow g) (t.trans (Stp.of_gro g)) r'⟩
      | ex c p ρ' =>
        rw [hm] at h
        dsimp only at h
        cases hh : hv c p with
        | none => simp only [hh] at h; exact h.elim
        | some d =>
          simp only [hh] at h
          exact fun α' o H' s t x => ⟨Fb A α', c, p, d, rfl, s.dm, s.tabs, x, hh, fun v' H'' g r' => h α' v' H'' (s.grow g) (t.trans (Stp.of_gro g)) r'⟩
    obtain ⟨t', ht', hq'⟩ := hG X.A X.stack f c' _ s' H1 Q m σ hrG
      (fun W pn xe p1 p2 tk => pe_actV (i := 0) (tb := fun E => rdV X.K C (WEx E) m) I1 L hf hfn hfr (hbind _ _ _ _ _) tk hrG (fun A outer s H E hr2 => hbody A outer s H E f c' hr2) hNg hva hd hcd) hco hrd
    exact ⟨t', ht'.nox, hq'⟩
  refine wpAny_call (codeAny_mono rc fun r s2 hq => ?_)
  cases r with
  | error e => exact (show False from hq).elim
  | ok fl =>
    cases fl with
    | ret u => exact I1.after hq
    | next => exact False.elim hq
    | brk => exact False.elim hq
    | cont => exact False.elim hq
end
/-! ### such defs -/
def blank (n : Nat) : Rho := List.replicate n .no
def hvOf (fld : Nat → Option Str) (n : Nat) (l : List Hd) : Nat → D → Option D := fun c p => match hdl fld l c p (blank n) with
  | .rt d _ => some d
  | _ => none
section
variable {P : Program} {w : World} {K : PySem.W.Frag} {mg : Str → Option Value} {base : Heap} {C : Ctx} {k : Nat}
theorem sr_blank {A : Addr → Prop} {H : Hp} {N : List Str} {f : Addr} (hd : DmF A H) (ht : Tabs C.T H) (hN : 1 ≤ N.length) : SR K C A (fun _ => none) (blank N.length) (L2.start N [.ref f]) H := by
  refine ⟨?_, (fun i j a h => nomatch h), (fun _ _ => rfl), (fun i x e => ?_), hd, (fun i a h => nomatch h), ht⟩
  · unfold L2.start blank
    rw [List.length_append, List.length_map, List.length_replicate, List.length_replicate, List.length_singleton]
    omega
  · unfold blank at e
    have hx : x = .no := List.eq_of_mem_replicate (List.mem_of_getElem? e)
    subst hx
    rfl
theorem hv_w {A' : Addr → Prop} {H' : Hp} {N : List Str} {f : Addr} {l : List Hd} {c : Nat} {p d : D} {o : Option Addr} {Q : VK} {Dn : Ends} (hD : Dn.rt = Q) (hxs : C.xs = none) (hok : ∀ x ∈ l, ∀ n b, x.hm n = some b → PySem.W.exmOne K (C.cls n) x.cv = some b) (hN : 1 ≤ N.length)
    (dm : DmF A' H') (ht : Tabs C.T H') (x : XR K C A' H' c p o) (hv : hvOf C.fld N.length l c p = some d) (q : ∀ v H'', Gro C H' H'' → Rep K C A' H'' d v → Q v H'') :
    wAll K W0 Dn (l.map fun h => (h.cv, h.oi, h.ts K C)) (C.cls c) o (L2.start N [.ref f]) H' := by
  refine hdl_w (W := W0) (Dn := Dn) (A := A') (α0 := fun _ => none) (H0 := H') (p := p) hxs hok ?_ (sr_blank (f := f) dm ht hN) Stp.refl (x.mv ⟨Kp.refl, fun b o _ _ n z => n (z.elim id fun ⟨_, z⟩ => nomatch z)⟩)
  unfold hvOf at hv
  cases hh : hdl C.fld l c p (blank N.length) with
  | rt d' ρ' =>
    rw [hh] at hv
    cases hv
    intro α' σ' v H'' s t r
    rw [hD]
    exact q v H'' t.gro (r.mv (Mv.weak fb_A))
  | nx ρ' => rw [hh] at hv; cases hv
  | bk ρ' => rw [hh] at hv; cases hv
  | ct ρ' => rw [hh] at hv; cases hv
  | ex _ _ ρ' => rw [hh] at hv; cases hv
  | bad => rw [hh] at hv; cases hv
variable {x a : Str} {g : Addr} {params : Arguments} {sg : Scope} {fd : FuncData} {N : List Str} {hds : List ExceptHandler} {h0 : ExceptHandler} {l : List Hd} {p1 p2 p3 p8 p9 : Pos} {fld : Nat → Option Str}
/-- def x(a): try: return a() / except .. -/
theorem told_ok1 (F : FunD K x x params [.Try [.Return (some (.Call (.Name a p1) [] [] p2)) p3] (h0 :: hds) [] [] p8] sg [] [] g fd) (S : FnScope N [a] sg) (hbn : L2.Binds K fd [a] []) (hN0 : N[0]? = some a) (hva : Vis sg a) (hd : (a == ("__debug__" : Str)) = false) (hcd : (a == ("__classdict__" : Str)) = false) (hnd : N.Nodup)
    (hfl : C.fld = fld) (hxs : C.xs = none)
    (hh : ∀ (cdv : Value) (Ar : Around) (outer : List Env) (s : Shared) (H : Hp), RoomG (k + 1) (Ar.deeper (envOfC x sg s.heap.objs.size g cdv)) → HdsV (cxOf C8.CX0 P w K mg base N x sg g cdv Ar outer s H C8.E0).nox C (h0 :: hds) l) :
    ToldOk P w K mg base C k x g none (hvOf fld N.length l) := by
  obtain ⟨oc, od, dV, kV, doc, pm, an, cdv, ct, osl, rfl, lk, hcode, _, _⟩ := F.ex
  subst hfl
  have hN : 1 ≤ N.length := by
    cases N with
    | nil => cases hN0
    | cons _ _ => simp
  refine ⟨a, N, _, _, _, _, _, _, _, cdv, _, _, _, _, _, lk, hcode, hbn, S, hN0, hva, hd, hcd, fun A outer f c' q s H Q m σ hr act hc hrd => ?_⟩
  have h00 : (L2.start N [V.ref f])[0]? = some (some (V.ref f)) := rfl
  have HV := hh cdv A outer s H hr
  refine ⟨_, pss_one (ps_try_all (X := (cxOf C8.CX0 P w K mg base N x sg g cdv A outer s H C8.E0).nox) (Wout := W0)
    (tb := fun W D σZ HZ => ∃ E : XK, (∀ cls d H', E cls d H' → W cls d σZ H') ∧ σZ[0]? = some (some (.ref f)) ∧ HZ c' = some (CodeO c' q) ∧ rdV K C (WEx E) m σ HZ D.rt) rfl rfl hnd takes_none5 (fun W pn xe tk _ => ?_) HV.all), ?_⟩
  · exact pss_one (ps_ret (act W pn xe p1 p2 tk))
  · exact ⟨EKv K C (hvOf C.fld N.length l) Q, fun cls o H' ⟨A', c, p, d, e1, dm, ht, xr, hv, q⟩ => by
      subst e1
      exact hv_w rfl hxs HV.ok hN dm ht xr hv q, h00, hc, hrd⟩
/-- def x(a): try: a() / except .. / return e -/
theorem told_ok2 {e : Expr} {fe : Rho → Option D} {d0 : D} (F : FunD K x x params [.Try [.Expr (.Call (.Name a p1) [] [] p2) p3] (h0 :: hds) [] [] p8, .Return (some e) p9] sg [] [] g fd) (S : FnScope N [a] sg) (hbn : L2.Binds K fd [a] []) (hN0 : N[0]? = some a) (hva : Vis sg a) (hd : (a == ("__debug__" : Str)) = false) (hcd : (a == ("__classdict__" : Str)) = false) (hnd : N.Nodup)
    (hfl : C.fld = fld) (hxs : C.xs = none)
    (hh : ∀ (cdv : Value) (Ar : Around) (outer : List Env) (s : Shared) (H : Hp), RoomG (k + 1) (Ar.deeper (envOfC x sg s.heap.objs.size g cdv)) → HdsV (cxOf C8.CX0 P w K mg base N x sg g cdv Ar outer s H C8.E0).nox C (h0 :: hds) l)
    (he : ∀ (cdv : Value) (Ar : Around) (outer : List Env) (s : Shared) (H : Hp), RoomG (k + 1) (Ar.deeper (envOfC x sg s.heap.objs.size g cdv)) → QE (cxOf C8.CX0 P w K mg base N x sg g cdv Ar outer s H C8.E0).nox C e fe) (hd0 : fe (blank N.length) = some d0) :
    ToldOk P w K mg base C k x g (some d0) (hvOf fld N.length l) := by
  obtain ⟨oc, od, dV, kV, doc, pm, an, cdv, ct, osl, rfl, lk, hcode, _, _⟩ := F.ex
  subst hfl
  have hN : 1 ≤ N.length := by
    cases N with
    | nil => cases hN0
    | cons _ _ => simp
  refine ⟨a, N, _, _, _, _, _, _, _, cdv, _, _, _, _, _, lk, hcode, hbn, S, hN0, hva, hd, hcd, fun A outer f c' q s H Q m σ hr act hc hrd => ?_⟩
  have h00 : (L2.start N [V.ref f])[0]? = some (some (V.ref f)) := rfl
  have HV := hh cdv A outer s H hr
  have HE := he cdv A outer s H hr
  refine ⟨_, pss_cons (ps_try_all (X := (cxOf C8.CX0 P w K mg base N x sg g cdv A outer s H C8.E0).nox) (Wout := W0)
    (tb := fun W D σZ HZ => ∃ E : XK, (∀ cls d H', E cls d H' → W cls d σZ H') ∧ σZ[0]? = some (some (.ref f)) ∧ HZ c' = some (CodeO c' q) ∧ rdV K C (WEx E) m σ HZ fun _ H' => D.nx σZ H') rfl rfl hnd takes_none5 (fun W pn xe tk _ => ?_) HV.all) (pss_one (qs_ret (W := W0) HE)), ?_⟩
  · exact pss_one (ps_expr (act W pn xe p1 p2 tk) (by rfl))
  · refine ⟨EKv K C (hvOf C.fld N.length l) Q, fun cls o H' ⟨A', c, p, d, e1, dm, ht, xr, hv, q⟩ => ?_, h00, hc, rdV_mono (fun _ _ _ h => h) (fun v H' hq => ?_) hrd⟩
    · subst e1
      exact hv_w rfl hxs HV.ok hN dm ht xr hv q
    · obtain ⟨A', dm, ht, q⟩ := hq
      refine ⟨A', fun _ => none, blank N.length, sr_blank dm ht hN, ?_⟩
      unfold sRet
      rw [hd0]
      exact fun α' σ' v H'' s t r => q v H'' t.gro (r.mv (Mv.weak fb_A))
end
end VL
end
section
set_option Elab.async false
set_option linter.all false
set_option maxRecDepth 100000
set_option maxHeartbeats 4000000
/-! VL14: starred items, repr, len(set(..)), sorted, lists added and repeated, a list unpacked. -/
namespace VL
open PySem PySem.Spec L2
open PyProof.Rows hiding St
section
variable {X : Cx} {pins : List (Addr × Obj)} {σ : L2.St} {H : Hp} {s : Shared}
theorem star_lst {a : Addr} {xs : List V} {E : Value → Shared → Prop} {Q : List Value → Shared → Prop} (I : Inv X pins σ H s) (h : SqL X.K H a xs) (hQ : ∀ us s', Inv X pins σ H s' → Vals xs us → Q us s') :
    PySem.W.StarOf (model X.prog X.w) X.A E (.ref a) Q s := by
  obtain ⟨its, r, ⟨o, n, ho, hc, _, hd⟩, hz⟩ := I.list h
  have hT : s.TypeIs (.ref a) "list" := ⟨o, ho, hc⟩
  have hl := r.length
  have z : wpAny (model X.prog X.w) X.A (collect (.ref a)) Q E s := by
    refine wpAny_collect_seq a (.inl rfl) ho hc hd (fun h' hk => ?_) (by rw [List.size_toArray]; omega)
    have e : its.toArray.toList = its := by simp
    rw [e]
    exact hQ its _ (I.kept (t' := s.toks) hk) r
  unfold PySem.W.StarOf notIterableAtAll
  exact wpAny_bind (wpAny_specialOf hT PySem.F.slot_list_iter.lookup (wpAny_pure ⟨rfl, z⟩))
def tStar (K : PySem.W.Frag) (te : TE) (t : TA) : TA := fun σ H Q => te σ H fun x H1 => ∃ a xs, x = .ref a ∧ (SqL K H1 a xs ∨ SqT K H1 a xs) ∧ t σ H1 fun vs H2 => Q (xs ++ vs) H2
theorem pa_star {e : Expr} {es : List Expr} {p : Pos} {te : TE} {t : TA} (ha : PE X e te) (hr : PA X es t) (hs : starEach (.Starred e p :: es) X.env = (true, eval e X.env) :: starEach es X.env := by rfl) : PA X (.Starred e p :: es) (tStar X.K te t) := by
  refine ⟨fun pos pins s σ H Q I h => ?_⟩
  refine PySem.W.items_star (thn (ha.run pins s σ H _ I h) fun u s1 ⟨x, H1, I1, rx, a, xs, ex, hx, q⟩ => ?_) hs
  subst ex
  obtain rfl : u = Value.ref a := rx
  have go : ∀ us s', Inv X pins σ H1 s' → Vals xs us → wpAny (model X.prog X.w) X.A (spliced (backTo pos (starEach es X.env))) (fun vs s₃ => ∃ ws H2, Inv X pins σ H2 s₃ ∧ Vals ws (us ++ vs) ∧ Q ws H2) X.xe s' := fun us s' I' r =>
    thn (hr.run pos pins s' σ H1 _ I' q) fun vs s3 ⟨ws, H2, I2, r2, q2⟩ => ⟨xs ++ ws, H2, I2, r.append r2, q2⟩
  rcases hx with hx | hx
  · exact star_lst I1 hx fun us s' I' r => go us s' I' r
  · exact star_tup I1 hx fun us s' I' r => go us s' I' r
end
def seqO : D → Option (List D)
  | .tup xs => some xs
  | .lst xs => some xs
  | _ => none
theorem RepB.seq {K : PySem.W.Frag} {C : Ctx} {F : Addr → Prop} {H : Hp} {d : D} {v : V} {xs : List D} (h : RepB K C F H d v) (e : seqO d = some xs) : ∃ a vs, v = .ref a ∧ (SqL K H a vs ∨ SqT K H a vs) ∧ RepL K C F H xs vs := by
  cases d <;> first | cases e | skip
  · obtain ⟨a, vs, rfl, h1, h2⟩ := h.tupI
    exact ⟨a, vs, rfl, .inr h1, h2⟩
  · obtain ⟨a, vs, rfl, h1, h2⟩ := h.lstI
    exact ⟨a, vs, rfl, .inl h1, h2⟩
/-- starred items: the length is not known of the text, so a bound is asked -/
def aS (f : Rho → Option D) (fs : Rho → Option (List D)) : Rho → Option (List D) := fun ρ => (f ρ).bind fun d => (seqO d).bind fun xs => (fs ρ).bind fun ds => some (xs ++ ds)
section
variable {X : Cx} {C : Ctx} {W : WX} {e : Expr} {es : List Expr} {pos p : Pos} {f : Rho → Option D} {fs : Rho → Option (List D)}
/-- items of a display, starred ones among them -/
abbrev QAs (X : Cx) (C : Ctx) (es : List Expr) (fs : Rho → Option (List D)) : Prop := PA X es (rdA X.K C fs)
theorem qas_nil : QAs X C [] aN := (qa_nil (X := X) (C := C)).pa
theorem qas_cons (ha : QE X C e f) (hr : QAs X C es fs) (hs : starEach (e :: es) X.env = (false, eval e X.env) :: starEach es X.env := by rfl) : QAs X C (e :: es) (aC f fs) :=
  wkA (pa_cons ha hr hs) fun σ H Q ⟨A, α, ρ, d, s, e, q⟩ => by
    obtain ⟨x, e1, e⟩ := bind_some e
    obtain ⟨xs, e2, e⟩ := bind_some e
    cases e
    exact ⟨A, α, ρ, x, s, e1, fun v H1 g1 r1 => ⟨A, α, ρ, xs, s.grow g1, e2, fun vs H2 g2 r2 => q _ H2 (g1.trans g2) (.cons (r1.mv g2.mv) r2)⟩⟩
theorem qas_star (ha : BE X C e f) (hr : QAs X C es fs) (hs : starEach (.Starred e p :: es) X.env = (true, eval e X.env) :: starEach es X.env := by rfl) : QAs X C (.Starred e p :: es) (aS f fs) :=
  wkA (pa_star ha hr hs) fun σ H Q ⟨A, α, ρ, d, s, e, q⟩ => by
    obtain ⟨x, e1, e⟩ := bind_some e
    obtain ⟨xs, e0, e⟩ := bind_some e
    obtain ⟨ys, e2, e⟩ := bind_some e
    cases e
    refine ⟨A, α, ρ, x, s, e1, fun v H1 g1 r1 => ?_⟩
    obtain ⟨a, vs, rfl, hx, r⟩ := r1.seq e0
    exact ⟨a, vs, rfl, hx, A, α, ρ, ys, s.grow g1, e2, fun ws H2 g2 r2 => q _ H2 (g1.trans g2) ((r.mv g2.mv).append r2)⟩
def tupS (o : Option (List D)) : Option D := o.bind fun ds => if decide (ds.length ≤ 16777216) then some (.tup ds) else none
def lstS (fs : Rho → Option (List D)) : Rho → Option (List D) := fun ρ => (fs ρ).bind fun ds => if decide (ds.length ≤ 16777216) then some ds else none
theorem qe_tupS {x1} (h : QAs X C es fs) : QE X C (.Tuple es x1 pos) (fun ρ => tupS (fs ρ)) :=
  wkE (pe_tup h) fun σ H Q ⟨A, α, ρ, d, s, e, q⟩ => by
    obtain ⟨ds, hf, e2⟩ := bind_some e
    obtain ⟨c, rfl⟩ := if_some e2
    refine ⟨A, α, ρ, ds, s, hf, fun vs H1 g1 r => ⟨?_, fun p hp => q _ _ (g1.trans (Gro.new hp)) (repNewT hp r)⟩⟩
    rw [← r.length, ← sl16]
    exact of_decide_eq_true c
theorem fe_lstS (h : QAs X C es fs) : FE X C (.List es pos) (lstS fs) :=
  wkE (pe_lst h) fun σ H Q ⟨A, α, ρ, ds, s, e, q⟩ => by
    obtain ⟨ds', hf, e2⟩ := bind_some e
    obtain ⟨c, rfl⟩ := if_some e2
    refine ⟨A, α, ρ, ds', s, hf, fun vs H1 g1 r => ⟨?_, fun p hp => ?_⟩⟩
    · rw [← r.length, ← sl16]
      exact of_decide_eq_true c
    · exact q p vs _ (g1.trans (Gro.new hp)) (g1.nn _ hp) upd_same (r.mv (mvNew hp))
end
/-! ### repr -/
def reprD : List D → Option D
  | [d] => if d.P.canLay0 && d.P.showable && decide (d.P.depth ≤ 32) && decide (d.P.shown.length ≤ 16777216) then some (.str d.P.shown) else none
  | _ => none
section
variable {X : Cx} {C : Ctx}
theorem bq_repr (hg : X.A.guards = some []) (hu : X.A.units + 64 < cLine) : BQ X C (.builtin "repr") reprD := by
  intro pins s σ H vs us Q I rv ⟨F, ds, d, dm, r, e, q⟩
  unfold reprD at e
  split at e
  · rename_i d0
    obtain ⟨c, rfl⟩ := if_some e
    simp only [Bool.and_eq_true, decide_eq_true_eq] at c
    obtain ⟨⟨⟨c1, c2⟩, c3⟩, c4⟩ := c
    obtain ⟨v, rfl, r1⟩ := r.one
    obtain ⟨u, rfl, ru⟩ := vals1 rv
    rw [sl16] at c4
    have fin : ∀ (h' : Heap) (u' tk : Tok), (∀ b o, s.heap.get? b = some o → h'.get? b = some o) → EP X pins σ Q (.str d0.P.shown u') { s with heap := h', toks := tk } := fun h' u' tk hk =>
      ⟨.str d0.P.shown, H, I.kept hk, ⟨u', rfl⟩, q _ H Gro.refl (.str _)⟩
    obtain ⟨as, h1⟩ := Dp.reads I d0.P v u (r1.dp c1) ru
    clear q r1 r
    generalize d0.P = pd at h1 c1 c2 c3 c4 fin
    cases h1 with
    | none =>
      rw [PyData.shown_none] at fin
      exact PySem.P.repr_of_none (fin s.heap _ _ fun _ _ e => e)
    | bool b =>
      rw [PyData.shown_bool] at fin
      exact PySem.P.repr_of_bool (fin s.heap _ _ fun _ _ e => e)
    | int i t =>
      rw [PyData.shown_int] at fin
      exact PySem.P.repr_of_int (by simpa only [PyData.showable, decide_eq_true_eq] using c2) (fin s.heap _ _ fun _ _ e => e)
    | str x t =>
      rw [PyData.shown_str] at fin c4
      exact PySem.P.repr_of_str (fin s.heap _ _ fun _ _ e => e) c4
    | list a1 a2 a3 a4 => exact repr_of_reads' (.list a1 a2 a3 a4) c2 (fun hd => by rw [PyData.hasDict_of_canLay _ c1] at hd; cases hd) hg (by omega) (fun _ _ e => e) fin c4
    | tuple a1 a2 a3 a4 => exact repr_of_reads' (.tuple a1 a2 a3 a4) c2 (fun hd => by rw [PyData.hasDict_of_canLay _ c1] at hd; cases hd) hg (by omega) (fun _ _ e => e) fin c4
    | dict a1 a2 a3 a4 a5 => exact repr_of_reads' (.dict a1 a2 a3 a4 a5) c2 (fun hd => by rw [PyData.hasDict_of_canLay _ c1] at hd; cases hd) hg (by omega) (fun _ _ e => e) fin c4
  · cases e
end
end VL
end
section
set_option Elab.async false
set_option linter.all false
set_option maxRecDepth 100000
set_option maxHeartbeats 4000000
/-! VL15: sets of tuples of ints; sorted. -/
namespace L2
open PySem PySem.Spec PyProof.Rows
section
variable {P : Program} {w : World} {A : Around} {E : Value → Shared → Prop} {s : Shared}
/-- set(xs), xs a tuple (HandS's rule for a list, turned) -/
theorem call_set_tupT {l : Addr} {items : Array Value} (ks : List (Addr × List Int)) {Q : Value → Shared → Prop} (hh : A.handled = none) (hl : s.heap.IsTuple l items) (hit : items.toList = ks.map fun p => Value.ref p.1)
    (hk : ∀ p ∈ ks, IsT P w s.heap p.2 p.1) (hfew : ks.length < 64) (hu : A.units + 3 < cLine)
    (h : ∀ (h' : Heap) (tk : Nat) L es ep t, SetTR P w h' s.heap.objs.size L es ep t → Got ks ks.length L → (∀ b o, s.heap.get? b = some o → h'.get? b = some o) → Q (.ref s.heap.objs.size) { s with heap := h', toks := tk }) :
    wpAny (model P w) A (call (.type "set") [.ref l]) Q E s := by
  have hisz : items.size = ks.length := by
    have q := congrArg List.length hit
    rw [Array.length_toList, List.length_map] at q
    exact q
  obtain ⟨c, tl, hmro⟩ := F.called_set.mro
  have hmade := F.called_set.made
  have hsub := F.called_set.sub
  refine wpAny_call (codeAny_of_tree ?_)
  show wpAny _ _ (callAny (.type "set") _) _ _ _
  refine wpAny_pure ⟨Code.quiet_builtin _ (by decide +kernel), codeAny_builtin F.entry_type_call ?_⟩
  rw [Around.under_plain (weight_type_call_type "set" [.ref l] []) rfl]
  have h1 := F.called_set.notType
  have h2 := F.called_set.canCreate
  have hct := F.typeCall_set_1 (.ref l)
  repeat (any_goals (first | assumption | wp_step))
  refine codeAny_mono (code_set_led1 (.ref l) (E := E) (Q₁ := fun obj s₁ => obj = .ref s.heap.objs.size ∧ s₁ = { s with heap := s.heap.push { cls := .type "set", dict := none, data := .set #[] 0 (.fresh 0 0 (!w.params.followText "set-order")) } }) ⟨rfl, rfl⟩) fun r s₁ hr => ?_
  cases r with
  | error e => exact hr
  | ok fl =>
    cases fl with
    | ret obj =>
      obtain ⟨rfl, rfl⟩ := hr
      have hS : (s.heap.push { cls := .type "set", dict := none, data := .set #[] 0 (.fresh 0 0 (!w.params.followText "set-order")) }).get? s.heap.objs.size = some { cls := .type "set", dict := none, data := .set #[] 0 (.fresh 0 0 (!w.params.followText "set-order")) } := Heap.get?_push_size _ rfl
      have hT : Shared.TypeIs { s with heap := s.heap.push { cls := .type "set", dict := none, data := .set #[] 0 (.fresh 0 0 (!w.params.followText "set-order")) } } (.ref s.heap.objs.size) "set" := ⟨_, hS, rfl⟩
      have hli := F.called_set.init.lookup
      have hbi := F.called_set.init.bind (.ref s.heap.objs.size)
      repeat (any_goals (first | assumption | wp_step))
      refine codeAny_mono (codeAny_call_builtin (R := wants (fun r s₂ => r = .none ∧ ∃ h' tk L es ep t, s₂ = { s with heap := h', toks := tk } ∧ SetTR P w h' s.heap.objs.size L es ep t ∧ Got ks ks.length L ∧
          (∀ b o, s.heap.get? b = some o → h'.get? b = some o)) E) F.called_set.init.plain F.entry_set_init (check_set_init_1 hT ?_)) fun r₂ s₂ hr₂ => ?_
      · obtain ⟨ol, hol, hcl, nl, hdl⟩ := hl
        obtain ⟨ocls, odict, odata, oslots⟩ := ol
        simp only at hcl hdl
        subst hcl; subst hdl
        have hol' : (s.heap.push { cls := .type "set", dict := none, data := .set #[] 0 (.fresh 0 0 (!w.params.followText "set-order")) }).get? l = some { cls := .type "tuple", dict := odict, data := .seq items nl, slots := oslots } := Heap.get?_push_of_some _ hol
        have hsls := F.sub_tuple_set
        have hslf := F.sub_tuple_frozenset
        have hne : (Value.type "tuple" == Value.type "dict") = false := by decide
        have hl1 : (s.heap.push { cls := .type "set", dict := none, data := .set #[] 0 (.fresh 0 0 (!w.params.followText "set-order")) }).IsTuple l items := ⟨_, hol', rfl, nl, rfl⟩
        unfold Builtin.«set.__init__» noKeywords Builtin.Frozenset.updateFrom
        generalize hPI : pyIter = PI
        wp_walk
        subst hPI
        refine wpAny_pyIter_tuple hl1 ?_
        refine wpAny_bind (wpAny_runValue ?_)
        have hlS : l < s.heap.objs.size := Heap.lt_size hol
        have hh3 : A.in1.in1.in1.handled = none := by simp [hh]
        have hz1 : (s.heap.push { cls := .type "set", dict := none, data := .set #[] 0 (.fresh 0 0 (!w.params.followText "set-order")) }).objs.size = s.heap.objs.size + 1 := Heap.size_push ..
        have hneI : l ≠ (s.heap.push { cls := .type "set", dict := none, data := .set #[] 0 (.fresh 0 0 (!w.params.followText "set-order")) }).objs.size := by
          rw [Heap.size_push]; exact Nat.ne_of_lt (Nat.lt_succ_of_lt hlS)
        have hSf : s.heap.objs.size ∉ [(s.heap.push { cls := .type "set", dict := none, data := .set #[] 0 (.fresh 0 0 (!w.params.followText "set-order")) }).objs.size, l] := by
          rw [Heap.size_push]; simp only [List.mem_cons, List.mem_singleton, List.not_mem_nil, or_false, not_or]
          exact ⟨Nat.ne_of_lt (Nat.lt_succ_self _), Nat.ne_of_gt hlS⟩
        have hval : ∀ (i : Nat) (v : Value), items[i]? = some v → ∃ p, ks[i]? = some p ∧ v = .ref p.1 := fun i v hv => by
          have q : items.toList[i]? = some v := by rw [Array.getElem?_toList]; exact hv
          rw [hit, List.getElem?_map] at q
          cases hq : ks[i]? with
          | none => rw [hq] at q; cases q
          | some p =>
            rw [hq] at q
            exact ⟨p, rfl, (Option.some.inj q).symm⟩
        have none_of : ∀ b, s.heap.objs.size ≤ b → s.heap.get? b = none := fun b hb => by
          cases q : s.heap.get? b with
          | none => rfl
          | some o => exact absurd (Nat.lt_of_lt_of_le (Heap.lt_size q) hb) (Nat.lt_irrefl _)
        refine set_update_tups ((Walks.tuple hh3 _ l hneI items).toS) s.heap.objs.size
          hSf ks hisz hfew hval s.heap hk (none_of _ (Nat.le_refl _)) (fun b hb => none_of b (by
            rw [List.mem_singleton.mp hb, Heap.size_push]
            exact Nat.le_succ _)) hu (items.size - 0) 0 _ (by omega) (Nat.zero_le _)
          ⟨⟨_, Heap.get?_push_size _ rfl, rfl, rfl⟩, (hl1.push _)⟩ (fun b o e => Heap.get?_push_of_some _ (Heap.get?_push_of_some _ e)) ?hS0 ?hR
        case hS0 =>
          have hget : ((s.heap.push { cls := .type "set", dict := none, data := .set #[] 0 (.fresh 0 0 (!w.params.followText "set-order")) }).push { cls := .type "tuple_iterator", data := .fields #[.ref l, .int 0 0] }).get? s.heap.objs.size
              = some { cls := .type "set", dict := none, data := .set #[] 0 (.fresh 0 0 (!w.params.followText "set-order")) } := Heap.get?_push_of_some _ hS
          exact ⟨[], #[], 0, _, setTR_fresh hget, Got.zero ks⟩
        case hR =>
          intro s' L es ep t hm hS' g' hkp
          obtain ⟨h', g2, d', tk', os'⟩ := s'
          have eg : g2 = s.gens := hm.gens
          have ed : d' = s.drawn := hm.drawn
          have eo : os' = s.os := hm.os
          subst eg; subst ed; subst eo
          show wpAny _ _ _ _ _ _
          refine wpAny_pure ?_
          show wpAny _ _ (ret Value.none) _ _ _
          rw [hisz] at g'
          exact wpAny_pure ⟨rfl, h', tk', L, es, ep, t, rfl, hS', g', hkp⟩
      · cases r₂ with
        | error e => exact hr₂
        | ok fl₂ =>
          cases fl₂ with
          | ret r =>
            obtain ⟨rfl, h', tk, L, es, ep, t, rfl, hS', g', hk'⟩ := hr₂
            repeat (any_goals (first | assumption | wp_step))
            exact h _ _ _ _ _ _ hS' g' hk'
          | _ => exact hr₂.elim
    | _ => exact hr.elim
end
end L2
end
section
set_option Elab.async false
set_option linter.all false
set_option maxRecDepth 100000
set_option maxHeartbeats 2000000
/-! VL16: len(set(..)) of tuples of ints; sorted. -/
namespace VL
open PySem PySem.Spec L2
open PyProof.Rows hiding St
def tupIntsO : List D → Option (List (List Int))
  | [] => some []
  | .tup xs :: ds => (intsO xs).bind fun l => (tupIntsO ds).map fun r => l :: r
  | _ => none
theorem tupIntsO_some : ∀ {ds : List D} {ks : List (List Int)}, tupIntsO ds = some ks → ds = ks.map fun l => D.tup (l.map D.int)
  | [], ks, h => by cases h; rfl
  | d :: ds, ks, h => by
    cases d <;> first | cases h | skip
    obtain ⟨l, e1, h⟩ := bind_some h
    obtain ⟨r, e2, rfl⟩ := map_some h
    rw [intsO_some e1, tupIntsO_some e2]
    rfl
/-- the tuples' addresses -/
theorem tup_adr {K : PySem.W.Frag} {C : Ctx} {F : Addr → Prop} {H : Hp} : ∀ {ks : List (List Int)} {vs : List V}, RepL K C F H (ks.map fun l => D.tup (l.map D.int)) vs → ∃ ps : List (Addr × List Int), vs = ps.map (fun p => V.ref p.1) ∧ ps.map (·.2) = ks ∧ ∀ p ∈ ps, SqT K H p.1 (p.2.map V.int)
  | [], _, .nil => ⟨[], rfl, rfl, fun _ h => nomatch h⟩
  | k :: ks, _, .cons r t => by
    obtain ⟨ps, rfl, h2, h3⟩ := tup_adr t
    obtain ⟨a, ws, rfl, h4, h5⟩ := r.tupI
    rw [RepL.intsV h5] at h4
    refine ⟨(a, k) :: ps, rfl, by rw [List.map_cons, h2], fun p hp => ?_⟩
    rcases List.mem_cons.mp hp with rfl | hp
    · exact h4
    · exact h3 p hp
def dd : List (List Int) → List (List Int)
  | [] => []
  | x :: xs => if (dd xs).contains x then dd xs else x :: dd xs
theorem mem_dd : ∀ (l : List (List Int)) (x : List Int), x ∈ dd l ↔ x ∈ l
  | [], x => Iff.rfl
  | y :: l, x => by
    unfold dd
    split
    · rename_i h
      rw [List.contains_iff_mem] at h
      rw [List.mem_cons, mem_dd l x]
      exact ⟨.inr, fun z => z.elim (fun e => by rw [e]; exact (mem_dd l y).mp h) id⟩
    · rw [List.mem_cons, List.mem_cons, mem_dd l x]
theorem nodup_dd : ∀ l : List (List Int), (dd l).Nodup
  | [] => List.nodup_nil
  | y :: l => by
    unfold dd
    split
    · exact nodup_dd l
    · rename_i h
      exact List.nodup_cons.mpr ⟨fun z => h (List.contains_iff_mem.mpr z), nodup_dd l⟩
theorem nodup_le {α : Type} [DecidableEq α] : ∀ (l m : List α), l.Nodup → (∀ x ∈ l, x ∈ m) → l.length ≤ m.length
  | [], _, _, _ => Nat.zero_le _
  | x :: l, m, hn, hs => by
    obtain ⟨h1, h2⟩ := List.nodup_cons.mp hn
    have hx : x ∈ m := hs x List.mem_cons_self
    have ih := nodup_le l (m.erase x) h2 fun y hy => (List.mem_erase_of_ne (fun e => h1 (by rw [← e]; exact hy))).2 (hs y (List.mem_cons_of_mem _ hy))
    have e := List.length_erase_of_mem hx
    have hp : 0 < m.length := List.length_pos_of_mem hx
    rw [List.length_cons]
    omega
theorem dd_len {l m : List (List Int)} (hn : m.Nodup) (h1 : ∀ x ∈ m, x ∈ l) (h2 : ∀ x ∈ l, x ∈ m) : m.length = (dd l).length :=
  Nat.le_antisymm (nodup_le _ _ hn fun x hx => (mem_dd l x).mpr (h1 x hx)) (nodup_le _ _ (nodup_dd l) fun x hx => h2 x ((mem_dd l x).mp hx))
def lenSetD (d : D) : Option D := (seqO d).bind fun xs => (tupIntsO xs).bind fun ks => if decide (ks.length < 64) then some (.int ((dd ks).length : Nat)) else none
section
variable {X : Cx} {C : Ctx} {W : WX} {a : Expr} {fa : Rho → Option D} {p p2 q pos : Pos}
def tLenSetT (K : PySem.W.Frag) (ta : TE) : TE := fun σ H Q => ta σ H fun x H1 => ∃ (l : Addr) (ks : List (Addr × List Int)), x = V.ref l ∧ (SqL K H1 l (ks.map fun p => V.ref p.1) ∨ SqT K H1 l (ks.map fun p => V.ref p.1)) ∧ (∀ p ∈ ks, SqT K H1 p.1 (p.2.map V.int)) ∧ ks.length < 64 ∧ Q (.int ((dd (ks.map (·.2))).length : Nat)) H1
theorem pe_lenSetT {ta : TE} (hc : X.calm = true) (hu : X.A.units + 64 < cLine) (hg : Gl X "len") (hm : X.mg "len" = none) (hg2 : Gl X "set") (hm2 : X.mg "set" = none) (ha : PE X a ta)
    (na : starEach [a] X.env = (false, eval a X.env) :: starEach [] X.env := by rfl) : PE X (.Call (.Name "len" p) [.Call (.Name "set" p2) [a] [] q] [] pos) (tLenSetT X.K ta) := by
  refine ⟨fun pins s σ H Q I h => ?_⟩
  refine Call_ (ld_blt I hg hm PySem.boot_len ?_)
  refine PyProof.Rows.callWith_builtin1 (PyProof.Rows.args_cons ?_ rfl) rfl rfl
  refine Call_ (ld_blt I hg2 hm2 PyProof.Rows.boot_set ?_)
  refine PyProof.Rows.callWith_type1 (PyProof.Rows.args_cons (thn (ha.run pins s σ H _ I h) fun v s1 ⟨x, H1, I1, r1, q1⟩ => PyProof.Rows.args_nil ?_) na) na rfl
  obtain ⟨l, ks, rfl, hq, hk, h1, q1⟩ := q1
  cases r1
  have fin : ∀ (h' : Heap) (tk : Nat) (L : List (Addr × List Int)) (es : Array (Int × Value)) (ep : Nat) (t : SetTable), SetTR X.prog X.w h' s1.heap.objs.size L es ep t → Got ks ks.length L → (∀ b o, s1.heap.get? b = some o → h'.get? b = some o) →
      wpAny (model X.prog X.w) X.A (call (.builtin "len") [.ref s1.heap.objs.size]) (EP X pins σ Q) X.xe { s1 with heap := h', toks := tk } := fun h' tk L es ep t R g k => by
    obtain ⟨o, ho, hex, hd⟩ := R.ob
    have I2 : Inv X pins σ H1 { s1 with heap := h', toks := tk } := I1.kept k
    have hn : es.size = L.length := by
      have e := congrArg List.length R.rows
      unfold rowsOf at e
      rw [List.length_map, Array.length_toList] at e
      exact e
    have hL : L.length = (dd (ks.map (·.2))).length := by
      rw [← List.length_map (f := fun p : Addr × List Int => p.2) (as := L)]
      refine dd_len R.nd (fun x hx => ?_) fun x hx => ?_
      · obtain ⟨p, hp, rfl⟩ := List.mem_map.mp hx
        exact List.mem_map_of_mem (List.mem_of_mem_take (g.sub p hp))
      · obtain ⟨p, hp, rfl⟩ := List.mem_map.mp hx
        exact g.all p (by rw [List.take_length]; exact hp)
    have hfew := R.few
    refine call_len_set (s := { s1 with heap := h', toks := tk }) ho hex hd (SetTR.fits (s := { s1 with heap := h', toks := tk }) R) (by rw [hn] <;> omega) ⟨.int ((dd (ks.map (·.2))).length : Nat), H1, I2.tok _, ⟨_, by rw [hn, hL]⟩, q1⟩
  rcases hq with hq | hq
  · obtain ⟨its, r, pl, hz⟩ := I1.list hq
    refine call_set_tups (P := X.prog) (w := X.w) ks (I1.ok.hd hc) pl.isList (by simpa using refs_of_vals r) (fun p hp => I1.isT (hk p hp)) h1 (by omega) fun h' tk L es ep t R g k => PyProof.Rows.args_nil (fin h' tk L es ep t R g k)
  · obtain ⟨its, r, ⟨o, ho, hc', n, hd⟩, hz⟩ := I1.tuple hq
    refine call_set_tupT (P := X.prog) (w := X.w) ks (I1.ok.hd hc) (items := its.toArray) ⟨o, ho, hc', n, hd⟩ (by simpa using refs_of_vals r) (fun p hp => I1.isT (hk p hp)) h1 (by omega) fun h' tk L es ep t R g k => PyProof.Rows.args_nil (fin h' tk L es ep t R g k)
theorem qe_lenSet (hc : X.calm = true) (hu : X.A.units + 64 < cLine) (hg : Gl X "len") (hm : X.mg "len" = none) (hg2 : Gl X "set") (hm2 : X.mg "set" = none) (ha : BE X C a fa)
    (na : starEach [a] X.env = (false, eval a X.env) :: starEach [] X.env := by rfl) : QE X C (.Call (.Name "len" p) [.Call (.Name "set" p2) [a] [] q] [] pos) (qU lenSetD fa) :=
  wkE (pe_lenSetT hc hu hg hm hg2 hm2 ha na) fun σ H Q ⟨A, α, ρ, d, s, e, q⟩ => by
    obtain ⟨x, e1, e⟩ := bind_some e
    obtain ⟨xs, e2, e⟩ := bind_some e
    obtain ⟨ks, e3, e⟩ := bind_some e
    obtain ⟨c, rfl⟩ := if_some e
    refine ⟨A, α, ρ, x, s, e1, fun v H1 g1 r1 => ?_⟩
    obtain ⟨l, vs, rfl, hx, r⟩ := r1.seq e2
    rw [tupIntsO_some e3] at r
    obtain ⟨ps, rfl, h2, h3⟩ := tup_adr r
    refine ⟨l, ps, rfl, hx, h3, ?_, ?_⟩
    · rw [← List.length_map (f := fun p : Addr × List Int => p.2) (as := ps), h2]
      exact of_decide_eq_true c
    · rw [h2]
      exact q _ _ g1 (.int _)
end
/-! ### sorted -/
def insI (x : Int) : List Int → List Int
  | [] => [x]
  | y :: ys => if x ≤ y then x :: y :: ys else y :: insI x ys
def sortI : List Int → List Int
  | [] => []
  | x :: xs => insI x (sortI xs)
theorem insI_perm (x : Int) : ∀ l : List Int, (insI x l).Perm (x :: l)
  | [] => .refl _
  | y :: ys => by
    unfold insI
    split
    · exact .refl _
    · exact ((insI_perm x ys).cons y).trans (.swap x y ys)
theorem sortI_perm : ∀ l : List Int, (sortI l).Perm l
  | [] => .refl _
  | x :: xs => (insI_perm x _).trans ((sortI_perm xs).cons x)
theorem insI_sorted (x : Int) : ∀ {l : List Int}, l.Pairwise (· ≤ ·) → (insI x l).Pairwise (· ≤ ·)
  | [], _ => List.pairwise_singleton _ _
  | y :: ys, h => by
    unfold insI
    obtain ⟨h1, h2⟩ := List.pairwise_cons.mp h
    split
    · rename_i hx
      exact List.pairwise_cons.mpr ⟨fun z hz => (List.mem_cons.mp hz).elim (fun e => by rw [e]; exact hx) fun m => Int.le_trans hx (h1 z m), h⟩
    · rename_i hx
      refine List.pairwise_cons.mpr ⟨fun z hz => ?_, insI_sorted x h2⟩
      rcases List.mem_cons.mp ((insI_perm x ys).mem_iff.mp hz) with e | m
      · rw [e]; omega
      · exact h1 z m
theorem sortI_sorted : ∀ l : List Int, (sortI l).Pairwise (· ≤ ·)
  | [] => List.Pairwise.nil
  | x :: xs => insI_sorted x (sortI_sorted xs)
/-- a sorted list of ints is told by its items -/
theorem perm_sorted_eq : ∀ {l m : List Int}, l.Perm m → l.Pairwise (· ≤ ·) → m.Pairwise (· ≤ ·) → l = m := fun {l m} h h1 h2 =>
  h.eq_of_pairwise (fun a b _ _ x y => Int.le_antisymm x y) h1 h2
def sortedI : List D → Option (List D)
  | [.lst xs] => (intsO xs).bind fun ns => if decide (ns.length < 64) then some ((sortI ns).map D.int) else none
  | _ => none
section
variable {X : Cx} {C : Ctx}
theorem bf_sortedI : BF X C (.builtin "sorted") sortedI := by
  refine CallR.wk cr_sorted fun vs H Q ⟨F, ds, xs, dm, r, e, q⟩ => ?_
  unfold sortedI at e
  split at e
  · obtain ⟨ns, e1, e2⟩ := bind_some e
    obtain ⟨c, rfl⟩ := if_some e2
    obtain ⟨v, rfl, r1⟩ := r.one
    obtain ⟨a, ws, rfl, l, p⟩ := r1.lstI
    rw [intsO_some e1] at p
    rw [RepL.intsV p] at l
    refine ⟨a, ns, rfl, l, of_decide_eq_true c, fun ns' pp hp hsrt hn => ?_⟩
    have hs : ns' = sortI ns := perm_sorted_eq (hp.trans (sortI_perm ns).symm) (by first | exact hsrt | (simpa using hsrt)) (sortI_sorted ns)
    subst hs
    exact q pp _ _ (Gro.new hn) hn upd_same (RepL.ints _)
  · cases e
end
end VL
end
section
set_option Elab.async false
set_option linter.all false
set_option maxRecDepth 100000
set_option maxHeartbeats 2000000
/-! VL17: sorted lists of tuples of ints. -/
namespace TS
open PySem PyProof.Rows
section
variable {prog : Program} {w : World} {A : Around} {E : Value → Shared → Prop} {s : Shared}
/-- sorted(xs), at most one item (HandS's rule for tuples, turned) -/
theorem sorted_one {l : Addr} {vs : List Value} {Q : Value → Shared → Prop} (hl : s.heap.IsList l vs.toArray) (h1 : vs.length ≤ 1)
    (h : ∀ out : Array Value, out.toList.Perm vs → Q (.ref (s.heap.objs.size + 1)) { s with heap := sortedAll s.heap vs out }) :
    wpAny (model prog w) A (call (.builtin "sorted") [.ref l]) Q E s := by
  refine Calls.call_function_entry kind_sorted plain_sorted entry_sorted (args_sorted1 _) ?_
  unfold Builtin.«sorted»
  refine wpAny_bind (m := checkCount "sorted" 1 1 _) (wpAny_pure ?_)
  refine wpAny_bind (collect_list hl ?_ (by rw [sizeLine_eq]; omega))
  refine wpAny_bind (wpAny_newList ?_ (by rw [sizeLine_eq]; omega))
  have hsz : ((s.heap.push (seqObj "list" #[] 0)).update s.heap.objs.size (Obj.mapSeq (· ++ vs.toArray))).objs.size = s.heap.objs.size + 1 := by
    rw [Heap.size_update, size_push']
  have hoL : (((s.heap.push (seqObj "list" #[] 0)).update s.heap.objs.size (Obj.mapSeq (· ++ vs.toArray))).push (seqObj "list" vs.toArray 0)).get? (s.heap.objs.size + 1) = some (seqObj "list" vs.toArray 0) := by
    rw [← hsz]; exact Heap.get?_push_size _ rfl
  show wpAny _ _ _ _ _ { s with heap := ((s.heap.push (seqObj "list" #[] 0)).update s.heap.objs.size (Obj.mapSeq (· ++ vs.toArray))).push (seqObj "list" vs.toArray 0) }
  rw [hsz]
  refine wpAny_bind (wpAny_holding (wpAny_call_entry slot_list_sort ⟨_, hoL, rfl⟩ entry_list_sort (SK.plain_sort (r := fun _ => 0) hoL (by omega) (fun h2 => absurd h2 (by omega)) fun ps out a1 a2 a3 => ⟨_, rfl, ?_⟩) (args_list_sort _)))
  exact wpAny_pure ⟨_, rfl, h out (out_rank (r := fun _ => 0) a1 a2 a3).1⟩
end
end TS
namespace VL
open PySem PySem.Spec L2
open PyProof.Rows hiding St
theorem code_inj {B : Int} : ∀ {n m : List Int}, n.length = m.length → TS.Bd B n → TS.Bd B m → TS.code B n = TS.code B m → n = m
  | [], [], _, _, _, _ => rfl
  | [], _ :: _, h, _, _, _ => by simp at h
  | _ :: _, [], h, _, _, _ => by simp at h
  | d :: r, e :: q, hl, h1, h2, h => by
    have hl' : r.length = q.length := by simpa using hl
    have t1 : TS.Bd B r := fun m hm => h1 m (List.mem_cons_of_mem _ hm)
    have t2 : TS.Bd B q := fun m hm => h2 m (List.mem_cons_of_mem _ hm)
    rcases Int.lt_trichotomy d e with z | z | z
    · exact absurd h (Int.ne_of_lt (TS.code_lt hl' t1 t2 z))
    · subst z
      have hc : TS.code B r = TS.code B q := by
        have a1 : TS.code B (d :: r) = d * B ^ r.length + TS.code B r := rfl
        have a2 : TS.code B (d :: q) = d * B ^ q.length + TS.code B q := rfl
        rw [a1, a2, hl'] at h
        omega
      rw [code_inj hl' t1 t2 hc]
    · exact absurd h.symm (Int.ne_of_lt (TS.code_lt hl'.symm t2 t1 z))
abbrev BT : Int := 18446744073709551616
def leT (x y : List Int) : Bool := decide (TS.code BT x ≤ TS.code BT y)
def insT (x : List Int) : List (List Int) → List (List Int)
  | [] => [x]
  | y :: ys => if leT x y then x :: y :: ys else y :: insT x ys
def sortT : List (List Int) → List (List Int)
  | [] => []
  | x :: xs => insT x (sortT xs)
theorem insT_perm (x : List Int) : ∀ l : List (List Int), (insT x l).Perm (x :: l)
  | [] => .refl _
  | y :: ys => by
    unfold insT
    split
    · exact .refl _
    · exact ((insT_perm x ys).cons y).trans (.swap x y ys)
theorem sortT_perm : ∀ l : List (List Int), (sortT l).Perm l
  | [] => .refl _
  | x :: xs => (insT_perm x _).trans ((sortT_perm xs).cons x)
abbrev LeT : List Int → List Int → Prop := fun x y => TS.code BT x ≤ TS.code BT y
theorem insT_sorted (x : List Int) : ∀ {l : List (List Int)}, l.Pairwise LeT → (insT x l).Pairwise LeT
  | [], _ => List.pairwise_singleton _ _
  | y :: ys, h => by
    unfold insT
    obtain ⟨h1, h2⟩ := List.pairwise_cons.mp h
    split
    · rename_i hx
      have hx : LeT x y := of_decide_eq_true hx
      exact List.pairwise_cons.mpr ⟨fun z hz => (List.mem_cons.mp hz).elim (fun e => by rw [e]; exact hx) fun m => Int.le_trans hx (h1 z m), h⟩
    · rename_i hx
      have hx : ¬ LeT x y := fun z => hx (decide_eq_true z)
      refine List.pairwise_cons.mpr ⟨fun z hz => ?_, insT_sorted x h2⟩
      rcases List.mem_cons.mp ((insT_perm x ys).mem_iff.mp hz) with e | m
      · rw [e]
        exact Int.le_of_lt (Int.lt_of_not_ge hx)
      · exact h1 z m
theorem sortT_sorted : ∀ l : List (List Int), (sortT l).Pairwise LeT
  | [] => List.Pairwise.nil
  | x :: xs => insT_sorted x (sortT_sorted xs)
def bdO (ns : List Int) : Bool := ns.all fun m => decide (0 ≤ m) && decide (m.natAbs < 18446744073709551616)
theorem bdO_ok {ns : List Int} (h : bdO ns = true) : TS.Bd BT ns := fun m hm => by
  have z := List.all_eq_true.mp h m hm
  rw [Bool.and_eq_true, decide_eq_true_eq, decide_eq_true_eq] at z
  exact ⟨z.1, show m < 18446744073709551616 by have := z.1; have := z.2; omega⟩
theorem sortT_uniq {l m : List (List Int)} {d : Nat} (h : l.Perm m) (hb : ∀ x ∈ l, x.length = d ∧ TS.Bd BT x) (h1 : l.Pairwise LeT) (h2 : m.Pairwise LeT) : l = m :=
  h.eq_of_pairwise (fun a b ha hb' x y => code_inj ((hb a ha).1.trans (hb b (h.mem_iff.mpr hb')).1.symm) (hb a ha).2 (hb b (h.mem_iff.mpr hb')).2 (Int.le_antisymm x y)) h1 h2
theorem perm_of_map {α β : Type} {f : α → β} {ys zs : List β} (h : ys.Perm zs) : ∀ {ps : List α}, zs = ps.map f → ∃ ps' : List α, ps'.Perm ps ∧ ys = ps'.map f := by
  induction h with
  | nil =>
    intro ps e
    cases ps with
    | nil => exact ⟨[], .refl _, rfl⟩
    | cons _ _ => cases e
  | @cons x l1 l2 h ih =>
    intro ps e
    cases ps with
    | nil => cases e
    | cons p ps =>
      rw [List.map_cons] at e
      injection e with e1 e2
      obtain ⟨ps', h1, rfl⟩ := ih e2
      exact ⟨p :: ps', h1.cons p, by rw [List.map_cons, e1]⟩
  | swap x y l =>
    intro ps e
    cases ps with
    | nil => cases e
    | cons p ps =>
      cases ps with
      | nil => simp at e
      | cons q ps =>
        rw [List.map_cons, List.map_cons] at e
        injection e with e1 e2
        injection e2 with e2 e3
        exact ⟨q :: p :: ps, .swap p q ps, by rw [List.map_cons, List.map_cons, ← e1, ← e2, e3]⟩
  | trans h1 h2 ih1 ih2 =>
    intro ps e
    obtain ⟨p1, a1, a2⟩ := ih2 e
    obtain ⟨p2, b1, b2⟩ := ih1 a2
    exact ⟨p2, b1.trans a1, b2⟩
/-- xs: a list of tuples of equally many small ints, or of one item -/
def sortedT : List D → Option (List D)
  | [.lst xs] => if decide (xs.length ≤ 1) then some xs else (tupIntsO xs).bind fun ks => match ks with
    | [] => none
    | k :: ks' => if decide (1 ≤ k.length) && ((k :: ks').all fun x => decide (x.length = k.length) && bdO x) && decide ((k :: ks').length < 64) then some ((sortT (k :: ks')).map fun l => D.tup (l.map D.int)) else none
  | _ => none
section
variable {X : Cx} {C : Ctx}
def rSort1 (K : PySem.W.Frag) : List V → Hp → VK → Prop := fun vs H Q => ∃ (a : Addr) (xs : List V), vs = [V.ref a] ∧ SqL K H a xs ∧ xs.length ≤ 1 ∧ ∀ p, H p = none → Q (.ref p) (upd H p (.lst xs))
theorem perm_le1 {α : Type} {l m : List α} (h : l.Perm m) (hl : m.length ≤ 1) : l = m := by
  cases m with
  | nil => exact h.eq_nil
  | cons x m =>
    cases m with
    | nil => exact List.perm_singleton.mp h
    | cons _ _ => simp at hl
theorem cr_sort1 : CallR X (.builtin "sorted") (rSort1 X.K) := by
  intro pins s σ H vs us Q I r h
  obtain ⟨a, xs, rfl, hs, h1, q⟩ := h
  obtain ⟨its, rv, hl, hz⟩ := I.list hs
  rw [Vals.ref1 r]
  refine TS.sorted_one hl.isList (by rw [← rv.length]; exact h1) fun out hp => ?_
  have ho : out.toList = its := perm_le1 hp (by rw [← rv.length]; exact h1)
  obtain ⟨ep, he'⟩ := PyProof.Rows.sortedAll_at s.heap its out
  exact ⟨.ref _, upd H (s.heap.objs.size + 1) (.lst xs), I.laid (t' := s.toks) (fun _ _ => PyProof.Rows.sortedAll_old) (Nat.le_succ _) ⟨hz, out.toList, ep, by rw [ho]; exact rv, he'⟩, rfl, q _ (I.hok.fresh (Nat.le_succ _))⟩
theorem repTups {K : PySem.W.Frag} {F : Addr → Prop} {H : Hp} : ∀ {ps : List (Addr × List Int)}, (∀ p ∈ ps, SqT K H p.1 (p.2.map V.int)) → RepL K C F H ((ps.map (·.2)).map fun l => D.tup (l.map D.int)) (ps.map fun p => V.ref p.1)
  | [], _ => .nil
  | p :: ps, h => .cons (.tup (h p List.mem_cons_self) (RepL.ints _)) (repTups fun q hq => h q (List.mem_cons_of_mem _ hq))
theorem bf_sortedT : BF X C (.builtin "sorted") sortedT := by
  intro pins s σ H vs us Q I rv ⟨F, ds, xs, dm, r, e, q⟩
  unfold sortedT at e
  split at e
  · rename_i ys
    obtain ⟨v, rfl, r1⟩ := r.one
    obtain ⟨a, ws, rfl, l, p⟩ := r1.lstI
    split at e
    · rename_i h1
      cases e
      exact cr_sort1 pins s σ H _ us Q I rv ⟨a, ws, rfl, l, by rw [← p.length]; exact of_decide_eq_true h1, fun pp hn => q pp ws _ (Gro.new hn) hn upd_same (p.mv (mvNew hn))⟩
    · obtain ⟨ks, e1, e2⟩ := bind_some e
      cases ks with
      | nil => cases e2
      | cons k ks =>
        obtain ⟨c, rfl⟩ := if_some e2
        simp only [Bool.and_eq_true] at c
        obtain ⟨⟨c1, c2⟩, c3⟩ := c
        have c1 := of_decide_eq_true c1
        have c3 := of_decide_eq_true c3
        have c2 : ∀ x ∈ k :: ks, x.length = k.length ∧ TS.Bd BT x := fun x hx => by
          have z := List.all_eq_true.mp c2 x hx
          rw [Bool.and_eq_true, decide_eq_true_eq] at z
          exact ⟨z.1, bdO_ok z.2⟩
        rw [tupIntsO_some e1] at p
        obtain ⟨ps, rfl, h2, h3⟩ := tup_adr p
        refine cr_sortT (d := k.length) (B := BT) c1 pins s σ H _ us Q I rv ⟨a, _, rfl, l, by rw [List.length_map, ← List.length_map (f := fun p : Addr × List Int => p.2) (as := ps), h2]; exact c3, fun x hx => ?_, fun zs pp hp hpw hn => ?_⟩
        · obtain ⟨p0, hp0, rfl⟩ := List.mem_map.mp hx
          have hm : p0.2 ∈ k :: ks := by rw [← h2]; exact List.mem_map_of_mem hp0
          exact ⟨p0.2, ⟨p0.1, rfl, h3 p0 hp0⟩, c2 _ hm⟩
        · obtain ⟨ps', a1, rfl⟩ := perm_of_map hp rfl
          have hk3 : ∀ p ∈ ps', SqT X.K H p.1 (p.2.map V.int) := fun p0 hp0 => h3 p0 (a1.mem_iff.mp hp0)
          have hpm : (ps'.map (·.2)).Perm (k :: ks) := by rw [← h2]; exact a1.map _
          have heq : ps'.map (·.2) = sortT (k :: ks) := by
            refine sortT_uniq (d := k.length) (hpm.trans (sortT_perm _).symm) (fun x hx => c2 x (hpm.mem_iff.mp hx)) ?_ (sortT_sorted _)
            rw [List.pairwise_map]
            rw [List.pairwise_map] at hpw
            refine List.Pairwise.imp_of_mem (fun {x y} hx hy hxy => ?_) hpw
            exact hxy x.2 y.2 ⟨x.1, rfl, hk3 x hx⟩ ⟨y.1, rfl, hk3 y hy⟩
          rw [← heq] at q
          exact q pp _ _ (Gro.new hn) hn upd_same ((repTups hk3).mv (mvNew hn))
  · cases e
end
end VL
end
section
set_option Elab.async false
set_option linter.all false
set_option maxRecDepth 100000
set_option maxHeartbeats 2000000
/-! VL18: comprehensions whose elements change the state; lists added, repeated, unpacked. -/
namespace VL
open PySem PySem.Spec L2
open PyProof.Rows hiding St
def nxR : Res D → Res D
  | .ex _ _ _ => .bad
  | r => r
section
variable {X : Cx} {C : Ctx} {W : WX} {e : Expr} {m : Rho → Res D}
/-- where nothing is raised -/
theorem ve_nx (h : VE X C W0 e m) : VE X C W e (fun ρ => nxR (m ρ)) := wkE h fun σ H Q ⟨A, α, ρ, sr, q⟩ => by
  refine ⟨A, α, ρ, sr, ?_⟩
  have q : PostV X.K C W A α σ H Q (nxR (m ρ)) := q
  cases hm : m ρ with
  | ok d ρ' => rw [hm] at q; exact q
  | ex c p ρ' => rw [hm] at q; exact q.elim
  | bad => rw [hm] at q; exact q
theorem pass_no {P : Program} {w : World} {X : Cx} (σ : L2.St) : PassesAt (L2.CX P w) X σ (WE W0 σ) := fun _ _ _ _ _ _ c => by
  obtain ⟨_, _, _, _, _, _, _, _, _, _, _, _, z⟩ := c
  exact z.elim
end
section
variable {K : PySem.W.Frag} {C : Ctx} {A : Addr → Prop} {α α' : Nat → Option Addr} {ρ : Rho} {σ : L2.St} {H H' : Hp}
/-- a list that nobody sees is written -/
theorem stp_updN {a : Addr} {xs ys : List V} (t : Stp C α H α' H') (n : H a = none) (h : H' a = some (.lst xs)) : Stp C α H α' (upd H' a (.lst ys)) :=
  ⟨fun b o e q => by rw [upd_ne (ne_of_none e n)]; exact t.kp b o e q, fun x => tabs_upd (t.tb x) h, fun b e => by
    by_cases hb : b = a
    · rw [hb]; exact n
    · rw [upd_ne hb] at e
      exact t.nn b e, t.new, t.z⟩
theorem SR.updA {a : Addr} {xs ys : List V} (s : SR K C A α ρ σ H) (h : H a = some (.lst xs)) (ha : A a) : SR K C A α ρ σ (upd H a (.lst ys)) := by
  have mu : Mv (Fb A α) (Fb A α) H (upd H a (.lst ys)) := mv_upd h (.inl ha)
  refine ⟨s.len, s.inj, s.out, fun i x e => ?_, fun b z => ?_, s.na, tabs_upd s.tabs h⟩
  · have q := s.sl i x e
    cases x with
    | no => exact q
    | v d => obtain ⟨e1, v, e2, r⟩ := q; exact ⟨e1, v, e2, r.mv mu⟩
    | o ds =>
      obtain ⟨b, vs, e1, e2, e3, r⟩ := q
      exact ⟨b, vs, e1, e2, by rw [upd_ne (fun z => s.na i b e1 (by rw [z]; exact ha))]; exact e3, r.mv mu⟩
    | w es =>
      obtain ⟨b, vs, e1, e2, e3, e4, r⟩ := q
      exact ⟨b, vs, e1, e2, by rw [upd_ne (fun z => s.na i b e1 (by rw [z]; exact ha))]; exact e3, e4, r.mv mu⟩
  · by_cases hb : b = a
    · rw [hb, upd_same]
      exact ⟨_, rfl, NT.lst _⟩
    · rw [upd_ne hb]
      exact s.dom b z
theorem wipeR_no : ∀ {vs : List Nat} {ρ : Rho} {i : Nat}, i ∈ vs → i < ρ.length → (wipeR ρ vs)[i]? = some .no
  | v :: vs, ρ, i, hm, hl => by
    unfold wipeR
    have hlen : (wipeR ρ vs).length = ρ.length := by
      clear hm
      induction vs with
      | nil => rfl
      | cons w ws ih => unfold wipeR; rw [List.length_set, ih]
    by_cases e : v = i
    · subst e
      rw [List.getElem?_set_self (by rw [hlen]; exact hl)]
    · rw [List.getElem?_set_ne e]
      exact wipeR_no ((List.mem_cons.mp hm).elim (fun z => absurd z.symm e) id) hl
theorem wipeR_len : ∀ (vs : List Nat) (ρ : Rho), (wipeR ρ vs).length = ρ.length
  | [], _ => rfl
  | v :: vs, ρ => by unfold wipeR; rw [List.length_set, wipeR_len vs ρ]
/-- what is wiped does not matter -/
theorem SR.unwipe {vs : List Nat} {ρ0 : Rho} (s : SR K C A α (wipeR ρ0 vs) (L2.wipe σ vs) H) : SR K C A α (wipeR ρ0 vs) σ H := by
  refine ⟨by rw [s.len, wipe_length], s.inj, s.out, fun i x e => ?_, s.dom, s.na, s.tabs⟩
  have q := s.sl i x e
  by_cases hm : i ∈ vs
  · have hl : i < ρ0.length := by
      have z := (List.getElem?_eq_some_iff.mp e).1
      rw [wipeR_len] at z
      exact z
    rw [wipeR_no hm hl] at e
    cases e
    exact q
  · rw [wipe_out hm] at q
    exact q
end
/-! ### comprehensions -/
def compV (vs : List Nat) (g : D → Rho → Option Rho) (t : Rho → Option Bool) (m : Rho → Res D) : List D → List D → Rho → Res (List D)
  | [], acc, ρ => .ok acc ρ
  | x :: xs, acc, ρ => match g x ρ with
    | none => .bad
    | some ρ1 => (match t ρ1 with
      | none => .bad
      | some true => (match m ρ1 with
        | .ok d ρ2 => if cleanR ρ2 vs then compV vs g t m xs (acc ++ [d]) (wipeR ρ2 vs) else .bad
        | _ => .bad)
      | some false => compV vs g t m xs acc ρ)
def vLc (vs : List Nat) (mi : Rho → Res (List D)) (g : D → Rho → Option Rho) (t : Rho → Option Bool) (m : Rho → Res D) : Rho → Res (List D) := fun ρ =>
  bindR (mi ρ) fun xs ρ1 => if cleanR ρ1 vs && decide (xs.length ≤ 16777216) then compV vs g t m xs [] (wipeR ρ1 vs) else .bad
section
variable {K : PySem.W.Frag} {C : Ctx} {W : WX} {vs : List Nat} {mi : Rho → Res (List D)} {g : D → Rho → Option Rho} {t : Rho → Option Bool} {m : Rho → Res D}
theorem lcV {σ : L2.St} {H : Hp} {Q : VK} (h : rdVF K C W (vLc vs mi g t m) σ H Q) : tLc (rdVI K C W mi) (rdG K C vs g) (rdT K C t) (rdV K C W0 m) vs σ H Q := by
  obtain ⟨A, α, ρ, sr, q⟩ := h
  refine ⟨A, α, ρ, sr, ?_⟩
  unfold vLc at q
  cases h1 : mi ρ with
  | bad => rw [h1] at q; exact q.elim
  | ex c p ρ' => rw [h1] at q; exact q
  | ok xs ρ1 =>
    rw [h1] at q
    simp only [bindR] at q
    by_cases hcl : (cleanR ρ1 vs && decide (xs.length ≤ 16777216)) = true
    · rw [if_pos hcl] at q
      rw [Bool.and_eq_true, decide_eq_true_eq] at hcl
      obtain ⟨hcl, hln⟩ := hcl
      intro α1 J H1 s1 t1 itr Dn hn
      have q := PostF.step t1 q
      have g0 : Gro C H1 (upd H1 Dn (.lst [])) := Gro.new hn
      have s0 : SR K C (Ad A Dn) α1 ρ1 σ (upd H1 Dn (.lst [])) := (s1.addA hn g0 upd_same (NT.lst _)).1
      refine ⟨fun i m' H2 => m' = xs.length - i ∧ i ≤ xs.length ∧ ∃ α2 ρ2 acc ws, SR K C (Ad A Dn) α2 ρ2 (L2.wipe σ vs) H2 ∧ (∃ ρ0, ρ2 = wipeR ρ0 vs) ∧ Stp C α1 H1 α2 H2 ∧ H2 Dn = some (.lst ws) ∧ RepL K C (Fb (Ad A Dn) α2) H2 acc ws ∧ acc.length ≤ i ∧
          PostF K C W A α1 σ H1 Q (compV vs g t m (xs.drop i) acc ρ2),
        ⟨xs.length, by omega, Nat.zero_le _, α1, wipeR ρ1 vs, [], [], s0.wipe hcl, ⟨_, rfl⟩, Stp.of_gro g0, upd_same, .nil, Nat.le_refl _, by rw [List.drop_zero]; exact q⟩, fun i m' H2 hW => ?_⟩
      obtain ⟨rfl, hi, α2, ρ2, acc, ws, s2, ⟨ρ0, hρ⟩, t2, hD, hR, hal, q2⟩ := hW
      have mm : Mv (Fb A α1) (Fb (Ad A Dn) α2) H1 H2 := ⟨t2.mv.kp, fun b o e nt n z => by
        rcases z with (z | z) | z
        · exact n (.inl z)
        · rw [z, hn] at e; cases e
        · exact (t2.mv (A := A)).nf b o e nt n (.inr z)⟩
      obtain ⟨go, stop⟩ := itr _ _ mm
      by_cases hlt : i < xs.length
      · have ex : xs[i]? = some xs[i] := List.getElem?_eq_getElem hlt
        obtain ⟨hgo, hy⟩ := go i _ ex
        rw [drop_at ex] at q2
        unfold compV at q2
        refine .inr ⟨hgo, fun H' => ∃ m'', m'' < xs.length - i ∧ (m'' = xs.length - (i + 1) ∧ i + 1 ≤ xs.length ∧ ∃ α2 ρ2 acc ws, SR K C (Ad A Dn) α2 ρ2 (L2.wipe σ vs) H' ∧ (∃ ρ0, ρ2 = wipeR ρ0 vs) ∧ Stp C α1 H1 α2 H' ∧ H' Dn = some (.lst ws) ∧ RepL K C (Fb (Ad A Dn) α2) H' acc ws ∧ acc.length ≤ i + 1 ∧
          PostF K C W A α1 σ H1 Q (compV vs g t m (xs.drop (i + 1)) acc ρ2)), fun H' hN => hN, fun v H3 y => ?_⟩
        obtain ⟨g3, rx⟩ := hy v H3 y
        cases hg2 : g xs[i] ρ2 with
        | none => simp only [hg2] at q2; exact q2.elim
        | some ρ3 =>
          simp only [hg2] at q2
          refine ⟨_, α2, ρ2, _, ρ3, s2.grow g3, rx, hg2, fun σ' s4 k4 l4 => ⟨?_, ?_⟩⟩
          · refine wipe_ext (by rw [l4, wipe_length]) fun j hj => ?_
            rw [k4 j hj, wipe_out hj]
          have hw : L2.wipe σ' vs = L2.wipe σ vs := wipe_ext (by rw [l4, wipe_length]) fun j hj => by rw [k4 j hj, wipe_out hj]
          cases ht2 : t ρ3 with
          | none => simp only [ht2] at q2; exact q2.elim
          | some b =>
            simp only [ht2] at q2
            refine ⟨_, α2, ρ3, b, s4, ht2, fun H4 g4 => ?_⟩
            cases b with
            | false => exact (if_neg Bool.false_ne_true).mpr ⟨xs.length - (i + 1), by omega, rfl, hlt, α2, ρ2, acc, ws, s2.grow (g3.trans g4), ⟨ρ0, hρ⟩, t2.trans (Stp.of_gro (g3.trans g4)), (g3.trans g4).kp.any hD (NT.lst _), hR.mv (g3.trans g4).mv, by omega, q2⟩
            | true =>
              refine (if_pos rfl).mpr ⟨_, α2, ρ3, s4.grow g4, ?_⟩
              cases hm : m ρ3 with
              | bad => simp only [hm] at q2; exact q2.elim
              | ex c p ρ' => simp only [hm] at q2; exact q2.elim
              | ok d ρ5 =>
                simp only [hm] at q2
                by_cases hcl5 : cleanR ρ5 vs = true
                · rw [if_pos hcl5] at q2
                  intro α5 w H5 s5 t5 r5
                  have hD5 : H5 Dn = some (.lst ws) := t5.kp _ _ ((g3.trans g4).kp.any hD (NT.lst _)) (.inl ⟨fun ⟨j, e⟩ => (s4.grow g4).na j Dn e (.inr rfl), NT.lst _⟩)
                  have hR5 := (hR.mv (g3.trans g4).mv).mv t5.mv
                  have t6 : Stp C α1 H1 α5 H5 := (t2.trans (Stp.of_gro (g3.trans g4))).trans t5
                  have mu : Mv (Fb (Ad A Dn) α5) (Fb (Ad A Dn) α5) H5 (upd H5 Dn (.lst (ws ++ [w]))) := mv_upd hD5 (.inl (.inr rfl))
                  have s6 : SR K C (Ad A Dn) α5 (wipeR ρ5 vs) (L2.wipe σ vs) H5 := by
                    rw [← hw]
                    exact s5.wipe hcl5
                  refine ⟨ws, hD5, by rw [← hR5.length, ← sl16]; omega, xs.length - (i + 1), by omega, rfl, hlt, α5, wipeR ρ5 vs, acc ++ [d], ws ++ [w], s6.updA hD5 (.inr rfl), ⟨_, rfl⟩, stp_updN t6 hn hD5, upd_same, (hR5.append (.cons r5 .nil)).mv mu, ?_, q2⟩
                  rw [List.length_append]
                  simp only [List.length_cons, List.length_nil]
                  omega
                · rw [if_neg hcl5] at q2
                  exact q2.elim
      · have hd : xs.drop i = [] := List.drop_eq_nil_of_le (by omega)
        rw [hd] at q2
        subst hρ
        exact .inl ⟨stop i (by omega), q2 α2 Dn ws H2 s2.unwipe t2 hn hD hR⟩
    · rw [if_neg hcl] at q
      exact q.elim
end
section
variable {X : Cx} {C : Ctx} {W : WX} {mi : Rho → Res (List D)} {g : D → Rho → Option Rho} {t : Rho → Option Bool} {m : Rho → Res D}
theorem vf_lc {elt tg iter : Expr} {ifs : List Expr} {scope : Scope} (own : List (Str × Nat)) {pos : Pos} (hc : X.calm = true) (hN : X.N.Nodup) (hi : VI X C W tg iter mi) (ok : BlkOk X.N X.env.scope scope own)
    (hg : ∀ (s : Shared) (H : Hp) (Ca : Addr) (cl : List (Str × Addr)) (fp : List Addr), QG (X.blk s H scope (compEnvC scope cl Ca X.env) fp) C (own.map (·.2)) tg g)
    (ht : ∀ (s : Shared) (H : Hp) (Ca : Addr) (cl : List (Str × Addr)) (fp : List Addr), QTs (X.blk s H scope (compEnvC scope cl Ca X.env) fp) C ifs t)
    (he : ∀ (s : Shared) (H : Hp) (Ca : Addr) (cl : List (Str × Addr)) (fp : List Addr), VE (X.blk s H scope (compEnvC scope cl Ca X.env) fp) C W0 elt m) (hs : ∀ x, foldedSetIterable iter X.env x = pure x := by intro _; rfl) :
    VF X C W (.ListComp elt [⟨tg, iter, ifs, 0⟩] scope pos) (vLc (own.map (·.2)) mi g t m) :=
  wkE (pe_lc hc hN hi ok hg (fun s H Ca cl fp => (ht s H Ca cl fp).pt) he hs) fun σ H Q h => lcV h
theorem postK_VF {K : PySem.W.Frag} {A : Addr → Prop} {α : Nat → Option Addr} {σ : L2.St} {H : Hp} {Q : VK} {ms : Rho → Res (List D)} {ρ : Rho} (q : PostK K C W A α σ H Q (kF ms ρ)) : PostF K C W A α σ H Q (ms ρ) := postK_F q
/-- name = [..] on one line -/
theorem qs_setLcV {i : Nat} {y : Str} {py : Pos} {elt tg iter : Expr} {ifs : List Expr} {scope : Scope} (own : List (Str × Nat)) {pos spos : Pos} (hc : X.calm = true) (hN : X.N.Nodup) (hy : X.N[i]? = some y) (hyl : X.env.scope.names.lookup y = some .local)
    (hsw : swapsWith (.ListComp elt [⟨tg, iter, ifs, 0⟩] scope pos) (some (.Name y py)) spos.line X.env = pure true) (hi : VI X C W tg iter mi) (ok : BlkOk X.N X.env.scope scope own)
    (hg : ∀ (s : Shared) (H : Hp) (Ca : Addr) (cl : List (Str × Addr)) (fp : List Addr), QG (X.blk s H scope (compEnvC scope cl Ca X.env) fp) C (own.map (·.2)) tg g)
    (ht : ∀ (s : Shared) (H : Hp) (Ca : Addr) (cl : List (Str × Addr)) (fp : List Addr), QTs (X.blk s H scope (compEnvC scope cl Ca X.env) fp) C ifs t)
    (he : ∀ (s : Shared) (H : Hp) (Ca : Addr) (cl : List (Str × Addr)) (fp : List Addr), VE (X.blk s H scope (compEnvC scope cl Ca X.env) fp) C W0 elt m) (hs : ∀ x, foldedSetIterable iter X.env x = pure x := by intro _; rfl) :
    QS X C W (.Assign [.Name y py] (.ListComp elt [⟨tg, iter, ifs, 0⟩] scope pos) spos) (sSet i (kF (vLc (own.map (·.2)) mi g t m))) :=
  wkS (ps_setLc hc hN hy hyl hsw hi ok hg (fun s H Ca cl fp => (ht s H Ca cl fp).pt) he hs) fun Dn σ H ⟨A, α, ρ, sr, q⟩ => lcV ⟨A, α, ρ, sr, postK_F (set_post sr q)⟩
end
/-! ### a list unpacked -/
def gL (gs : List D → Rho → Option Rho) : D → Rho → Option Rho
  | .lst ds, ρ => gs ds ρ
  | _, _ => none
theorem qg_lst {X : Cx} {C : Ctx} {vs : List Nat} {es : List Expr} {pos : Pos} {gs : List D → Rho → Option Rho} {k n : Nat} (hc : X.calm = true) (h : QGs X C vs es gs) (hl : ∀ ds ρ ρ', gs ds ρ = some ρ' → ds.length = n)
    (hn : (assignEach es X.env).length = n := by rfl) (hst : (assignEach es X.env).findIdx? (·.1) = none := by rfl) : QG X C vs (.Tuple es k pos) (gL gs) := by
  refine ⟨fun pins s σ H v u Q I r q => (pg_lst hc h hn hst).run pins s σ H v u Q I r ?_⟩
  obtain ⟨A, α, ρ, d, ρ', sr, rp, e, q⟩ := q
  cases d <;> first | cases e | skip
  obtain ⟨a, ws, rfl, l, p⟩ := rp.lstI
  exact ⟨a, ws, rfl, l.sq, by rw [← p.length]; exact hl _ _ _ e, A, α, ρ, _, ρ', sr, p, e, q⟩
/-! ### new lists added and repeated -/
section
variable {X : Cx} {C : Ctx} {W : WX} {a b : Expr} {pos : Pos} {ma mb : Rho → Res (List D)} {m : Rho → Res D}
def vCat (ma mb : Rho → Res (List D)) : Rho → Res (List D) := fun ρ => bindR (ma ρ) fun xs ρ1 => bindR (mb ρ1) fun ys ρ2 => if decide (xs.length + ys.length ≤ 16777216) then .ok (xs ++ ys) ρ2 else .bad
def vCatO (i : Nat) (mb : Rho → Res (List D)) : Rho → Res (List D) := fun ρ => match ownAt ρ i with
  | some _ => bindR (mb ρ) fun ys ρ2 => (match ownAt ρ2 i with
    | some xs => if decide (xs.length + ys.length ≤ 16777216) then .ok (xs ++ ys) ρ2 else .bad
    | none => .bad)
  | none => .bad
def vRep (ma : Rho → Res (List D)) (m : Rho → Res D) : Rho → Res (List D) := fun ρ => bindR (ma ρ) fun xs ρ1 => bindR (m ρ1) fun d ρ2 => match intO d with
  | some k => if decide (0 ≤ k) && decide (k ≤ 1048576) && decide (xs.length * k.toNat ≤ 16777216) then .ok (List.replicate k.toNat xs).flatten ρ2 else .bad
  | none => .bad
/-- a new list laid behind others -/
theorem post_new {K : PySem.W.Frag} {A A' : Addr → Prop} {α α2 : Nat → Option Addr} {ρ2 : Rho} {σ : L2.St} {H H2 : Hp} {Q : VK} {xs : List D} {ws : List V} {p : Addr} (q : PostF K C W A α σ H Q (.ok xs ρ2)) (s2 : SR K C A' α2 ρ2 σ H2) (hA : ∀ b, A b → A' b) (t2 : Stp C α H α2 H2) (hn : H2 p = none) (r : RepL K C (Fb A α2) H2 xs ws) :
    Q (.ref p) (upd H2 p (.lst ws)) := by
  have s3 : SR K C A α2 ρ2 σ H2 := s2.less hA
  have g : Gro C H2 (upd H2 p (.lst ws)) := Gro.new hn
  obtain ⟨s4, m4⟩ := s3.addA hn g upd_same (NT.lst _)
  exact q α2 p ws _ s4 (t2.trans (Stp.of_gro g)) (t2.nn _ hn) upd_same (r.mv m4)
theorem vf_cat (ha : VF X C W a ma) (hb : VF X C W b mb) : VF X C W (.BinOp a .Add b pos) (vCat ma mb) :=
  wkE (pe_op op_cat ha hb) fun σ H Q ⟨A, α, ρ, sr, q⟩ => by
    refine ⟨A, α, ρ, sr, ?_⟩
    unfold vCat at q
    cases h1 : ma ρ with
    | bad => rw [h1] at q; exact q.elim
    | ex c p ρ' => rw [h1] at q; exact q
    | ok xs ρ1 =>
      rw [h1] at q
      simp only [bindR] at q
      intro α1 l v H1 s1 t1 n1 l1 r1
      refine ⟨Ad A l, α1, ρ1, s1, ?_⟩
      cases h2 : mb ρ1 with
      | bad => simp only [h2] at q; exact q.elim
      | ex c p ρ' =>
        simp only [h2] at q
        exact fun α' o H' s t x => q α' o H' (s.less fun _ z => .inl z) (t1.trans t) (x.mv (Mv.weak fun b z => z.elim (fun z => .inl (.inl z)) .inr))
      | ok ys ρ2 =>
        simp only [h2] at q
        by_cases hc : decide (xs.length + ys.length ≤ 16777216) = true
        · rw [if_pos hc] at q
          intro α2 l' v' H2 s2 t2 n2 l2 r2
          have l1' : H2 l = some (.lst v) := Stp.kept s1 t2 l1
          have r1' : RepL X.K C (Fb A α2) H2 xs v := (r1.mv t2.mv).mv (Mv.weak fun b z => z.elim (fun z => .inl (.inl z)) .inr)
          have r2' : RepL X.K C (Fb A α2) H2 ys v' := r2.mv (Mv.weak fun b z => z.elim (fun z => .inl (.inl (.inl z))) .inr)
          exact ⟨l, l', v, v', rfl, rfl, l1', l2, by rw [← r1.length, ← r2.length, ← sl16]; exact of_decide_eq_true hc, fun p hp => post_new q s2 (fun _ z => .inl (.inl z)) (t1.trans t2) hp (r1'.append r2')⟩
        · rw [if_neg hc] at q
          exact q.elim
theorem vf_catO {i : Nat} {x : Str} {p1 : Pos} (hN : X.N[i]? = some x) (hv : Vis X.env.scope x) (hb : VF X C W b mb) (hd : (x == ("__debug__" : Str)) = false := by decide) (hcd : (x == ("__classdict__" : Str)) = false := by decide) :
    VF X C W (.BinOp (.Name x p1) .Add b pos) (vCatO i mb) :=
  wkE (pe_op op_cat (pe_var (i := i) hN hv hd hcd) hb) fun σ H Q ⟨A, α, ρ, sr, q⟩ => by
    unfold vCatO at q
    cases h1 : ownAt ρ i with
    | none => simp only [h1] at q; exact q.elim
    | some xs0 =>
      simp only [h1] at q
      have h1 := ownAt_some h1
      obtain ⟨l, v0, al, sl, hl, hr⟩ := sr.slot h1
      refine ⟨.ref l, sl, A, α, ρ, sr, ?_⟩
      cases h2 : mb ρ with
      | bad => simp only [h2] at q; exact q.elim
      | ex c p ρ' => simp only [h2] at q; exact q
      | ok ys ρ2 =>
        simp only [h2, bindR] at q
        intro α2 l' v' H2 s2 t2 n2 l2 r2
        cases h3 : ownAt ρ2 i with
        | none => simp only [h3] at q; exact q.elim
        | some xs =>
          simp only [h3] at q
          by_cases hc : decide (xs.length + ys.length ≤ 16777216) = true
          · rw [if_pos hc] at q
            have h3 := ownAt_some h3
            obtain ⟨la, v, al2, sl2, hl2, hr2⟩ := s2.slot h3
            obtain rfl := sr.same s2 h1 h3 al al2
            have r1' : RepL X.K C (Fb A α2) H2 xs v := hr2.mv (Mv.weak fun b z => z.elim (fun z => .inl (.inl z)) .inr)
            have r2' : RepL X.K C (Fb A α2) H2 ys v' := r2.mv (Mv.weak fun b z => z.elim (fun z => .inl (.inl z)) .inr)
            exact ⟨l, l', v, v', rfl, rfl, hl2, l2, by rw [← hr2.length, ← r2.length, ← sl16]; exact of_decide_eq_true hc, fun p hp => post_new q s2 (fun _ z => .inl z) t2 hp (r1'.append r2')⟩
          · rw [if_neg hc] at q
            exact q.elim
theorem vf_rep (ha : VF X C W a ma) (hb : VE X C W b m) : VF X C W (.BinOp a .Mult b pos) (vRep ma m) :=
  wkE (pe_op op_rep ha hb) fun σ H Q ⟨A, α, ρ, sr, q⟩ => by
    refine ⟨A, α, ρ, sr, ?_⟩
    unfold vRep at q
    cases h1 : ma ρ with
    | bad => rw [h1] at q; exact q.elim
    | ex c p ρ' => rw [h1] at q; exact q
    | ok xs ρ1 =>
      rw [h1] at q
      simp only [bindR] at q
      intro α1 l v H1 s1 t1 n1 l1 r1
      refine ⟨Ad A l, α1, ρ1, s1, ?_⟩
      cases h2 : m ρ1 with
      | bad => simp only [h2] at q; exact q.elim
      | ex c p ρ' =>
        simp only [h2] at q
        exact fun α' o H' s t x => q α' o H' (s.less fun _ z => .inl z) (t1.trans t) (x.mv (Mv.weak fun b z => z.elim (fun z => .inl (.inl z)) .inr))
      | ok d ρ2 =>
        simp only [h2] at q
        cases h3 : intO d with
        | none => simp only [h3] at q; exact q.elim
        | some k =>
          simp only [h3] at q
          by_cases hc : (decide (0 ≤ k) && decide (k ≤ 1048576) && decide (xs.length * k.toNat ≤ 16777216)) = true
          · rw [if_pos hc] at q
            simp only [Bool.and_eq_true, decide_eq_true_eq] at hc
            obtain ⟨⟨hc1, hc2⟩, hc3⟩ := hc
            intro α2 v' H2 s2 t2 r2
            rw [intO_some h3] at r2
            cases r2
            have l1' : H2 l = some (.lst v) := Stp.kept s1 t2 l1
            have r1' : RepL X.K C (Fb A α2) H2 xs v := (r1.mv t2.mv).mv (Mv.weak fun b z => z.elim (fun z => .inl (.inl z)) .inr)
            exact ⟨l, k, v, rfl, rfl, l1', by omega, by omega, by rw [← r1.length, ← sl16]; exact hc3, fun p hp => post_new q s2 (fun _ z => .inl z) (t1.trans t2) hp (r1'.rep _)⟩
          · rw [if_neg hc] at q
            exact q.elim
end
end VL
end
section
set_option Elab.async false
set_option linter.all false
set_option maxRecDepth 100000
set_option maxHeartbeats 2000000
/-! VL19: a def that returns a new list; bundles of what is known of a def. -/
namespace VL
open PySem PySem.Spec L2
open PyProof.Rows hiding St
/-! ### bodies that end by returning a new list -/
inductive NRes where
  | ok (ds : List D) (ρ : Rho)
  | bad
def PostN (K : PySem.W.Frag) (C : Ctx) (A : Addr → Prop) (α : Nat → Option Addr) (H : Hp) (Dn : Ends) : NRes → Prop
  | .ok ds ρ' => ∀ α' σ' a vs H', SR K C (Ad A a) α' ρ' σ' H' → Stp C α H α' H' → H a = none → H' a = some (.lst vs) → RepL K C (Fb (Ad A a) α') H' ds vs → Dn.rt (.ref a) H'
  | .bad => False
def rdN (K : PySem.W.Frag) (C : Ctx) (m : Rho → NRes) : TS := fun Dn σ H => ∃ A α ρ, SR K C A α ρ σ H ∧ PostN K C A α H Dn (m ρ)
abbrev QN (X : Cx) (C : Ctx) (sts : List Stmt) (m : Rho → NRes) : Prop := PSs X sts (rdN X.K C m)
def nC (f : Rho → SRes) (g : Rho → NRes) : Rho → NRes := fun ρ => match f ρ with
  | .nx ρ' => g ρ'
  | _ => .bad
def nRet (ms : Rho → Res (List D)) : Rho → NRes := fun ρ => match ms ρ with
  | .ok ds ρ' => .ok ds ρ'
  | _ => .bad
section
variable {X : Cx} {C : Ctx} {st : Stmt} {rest : List Stmt} {f : Rho → SRes} {g : Rho → NRes} {e : Expr} {pos : Pos} {ms : Rho → Res (List D)}
theorem PostN.step {K : PySem.W.Frag} {A : Addr → Prop} {α α' : Nat → Option Addr} {H H' : Hp} {Dn : Ends} (s : Stp C α H α' H') : ∀ {r : NRes}, PostN K C A α H Dn r → PostN K C A α' H' Dn r
  | .ok _ _, h => fun β v a vs H2 sr t n l r => h β v a vs H2 sr (s.trans t) (s.nn _ n) l r
  | .bad, h => h
theorem qn_cons (h1 : QS X C W0 st f) (h2 : QN X C rest g) : QN X C (st :: rest) (nC f g) :=
  wkSs (pss_cons h1 h2) fun Dn σ H ⟨A, α, ρ, sr, q⟩ => by
    refine ⟨A, α, ρ, sr, ?_⟩
    unfold nC at q
    cases hf : f ρ with
    | nx ρ' =>
      rw [hf] at q
      exact fun α' σ' H' sr' st' => ⟨A, α', ρ', sr', q.step st'⟩
    | _ =>
      rw [hf] at q
      exact q.elim
theorem qn_ret (h : VF X C W0 e ms) : QN X C [.Return (some e) pos] (nRet ms) :=
  wkSs (pss_one (ps_ret h)) fun Dn σ H ⟨A, α, ρ, sr, q⟩ => by
    refine ⟨A, α, ρ, sr, ?_⟩
    unfold nRet at q
    cases hf : ms ρ with
    | ok ds ρ' => rw [hf] at q; exact fun α' a v H' s t n l r => q α' σ a v H' s t n l r
    | ex c p ρ' => rw [hf] at q; exact q.elim
    | bad => rw [hf] at q; exact q.elim
end
def spN (K : PySem.W.Frag) (C : Ctx) (n : Nat) (F : List D → Option (List D)) : Sp := fun vs H Q _ => ∃ A ds, DmF A H ∧ LamX.Tabs C.T H ∧ RepL K C A H ds vs ∧ ds.length = n ∧ ∃ xs, F ds = some xs ∧ ∀ a ws H', Gro C H H' → H a = none → H' a = some (.lst ws) → RepL K C (Ad A a) H' xs ws → Q (.ref a) H'
def runN (n : Nat) (m : Rho → NRes) : List D → Option (List D) := fun ds => match m (start0 n ds) with
  | .ok xs _ => some xs
  | .bad => none
def vN (F : List D → Option (List D)) (fs : Rho → Option (List D)) : Rho → Option (List D) := fun ρ => (fs ρ).bind F
section
variable {P : Program} {w : World} {K : PySem.W.Frag} {mg : Str → Option Value} {base : Heap} {C : Ctx} {CX : CXT} {k : Nat} {x qual : Str} {params : Arguments} {body : List Stmt} {scope : Scope} {dvs : List V} {kws : List (Str × V)} {f : Addr} {fd : FuncData} {N ps : List Str}
theorem fn_okN {m : Rho → NRes} (F : FunD K x qual params body scope dvs kws f fd) (S : FnScope N ps scope) (hl : ps.length ≤ N.length)
    (hb : ∀ (cdv : Value) (Ar : Around) (outer : List Env) (s : Shared) (H : Hp) (E : XK), cdv = .ref (codeAt K f) → RoomG k (Ar.deeper (envOfC qual scope s.heap.objs.size f cdv)) → QN (cxOf CX P w K mg base N qual scope f cdv Ar outer s H E).nox C body m) :
    FnOkG P w K mg base CX (k + 1) f fd ps (spN K C ps.length (runN N.length m)) := by
  refine funD_okG F S (fun vs H Q E h => ?_) (fun cdv Ar outer s H vs Q E hcv hr h => ⟨_, (hb cdv Ar outer s H E hcv hr).nox, ?_⟩)
  · obtain ⟨A, ds, _, _, r, e, _⟩ := h
    rw [← r.length, e]
  · obtain ⟨A, ds, hd, ht, r, e, xs, hx, q⟩ := h
    refine ⟨A, _, _, sr_start hd ht r (by rw [e]; exact hl), ?_⟩
    unfold runN at hx
    cases hm : m (start0 N.length ds) with
    | ok ys ρ' =>
      rw [hm] at hx
      cases hx
      exact fun α' σ' a vs' H' s t n l r => q a vs' H' t.gro n l (r.mv (Mv.weak fun b z => .inl z))
    | bad => rw [hm] at hx; cases hx
end
/-! ### bundles -/
/-- a def that raises nothing -/
structure GQ (P : Program) (w : World) (K : PySem.W.Frag) (mg : Str → Option Value) (base : Heap) (C : Ctx) (x : Str) (k n : Nat) (F : List D → FRes) : Prop where
  ex : ∃ (fd : FuncData) (ps : List Str), FnOkG P w K mg base C8.CX0 k (He.ga K x) fd ps (spP K C n F) ∧ L2.Binds K fd ps []
  hm : mg x = some (.ref (He.ga K x))
  hk : PySem.W.keepIn K (.ref (He.ga K x)) = true
structure GX (P : Program) (w : World) (K : PySem.W.Frag) (mg : Str → Option Value) (base : Heap) (C : Ctx) (x : Str) (k n : Nat) (F : List D → FRes) : Prop where
  ex : ∃ (fd : FuncData) (ps : List Str), FnOkG P w K mg base (L2.CX P w) k (He.ga K x) fd ps (spP K C n F) ∧ L2.Binds K fd ps []
  hm : mg x = some (.ref (He.ga K x))
  hk : PySem.W.keepIn K (.ref (He.ga K x)) = true
structure GI (P : Program) (w : World) (K : PySem.W.Frag) (mg : Str → Option Value) (base : Heap) (C : Ctx) (x : Str) (k n : Nat) (F : FIO) : Prop where
  ex : ∃ (fd : FuncData) (ps : List Str), FnOkG P w K mg base C8.CX0 k (He.ga K x) fd ps (spIO K C n F) ∧ L2.Binds K fd ps []
  hm : mg x = some (.ref (He.ga K x))
  hk : PySem.W.keepIn K (.ref (He.ga K x)) = true
structure GN (P : Program) (w : World) (K : PySem.W.Frag) (mg : Str → Option Value) (base : Heap) (C : Ctx) (x : Str) (k n : Nat) (F : List D → Option (List D)) : Prop where
  ex : ∃ (fd : FuncData) (ps : List Str), FnOkG P w K mg base C8.CX0 k (He.ga K x) fd ps (spN K C n F) ∧ L2.Binds K fd ps []
  hm : mg x = some (.ref (He.ga K x))
  hk : PySem.W.keepIn K (.ref (He.ga K x)) = true
section
variable {X : Cx} {C : Ctx} {W : WX} {x : Str} {k n : Nat} {F : List D → FRes} {e : Expr} {es : List Expr} {p pos : Pos} {fs : Rho → Option (List D)} {ms : Rho → Res (List D)}
theorem qe_g (G : GQ X.prog X.w X.K X.mg X.base C x k n F) (hr : RoomG k X.A) (hg : Gl X x) (ha : QA X C (e :: es) fs) (hn : (e :: es).length = n := by rfl) (hdb : (x == ("__debug__" : Str)) = false := by decide) (he : starEach (e :: es) X.env = (false, eval e X.env) :: starEach es X.env := by rfl) (hpl : (backTo pos (starEach es X.env)).any (·.1) = false := by rfl) :
    QE X C (.Call (.Name x p) (e :: es) [] pos) (qF F fs) := by
  obtain ⟨fd, ps, H, hb⟩ := G.ex
  exact qe_call H hr hg G.hm G.hk hb (C8.pass0 (E := C8.E0)) ha hn hdb he hpl
theorem qe_g0 (G : GQ X.prog X.w X.K X.mg X.base C x k 0 F) (hr : RoomG k X.A) (hg : Gl X x) (hdb : (x == ("__debug__" : Str)) = false := by decide) : QE X C (.Call (.Name x p) [] [] pos) (qF F aN) := by
  obtain ⟨fd, ps, H, hb⟩ := G.ex
  exact qe_call0 H hr hg G.hm G.hk hb (C8.pass0 (E := C8.E0)) hdb
theorem ve_g (G : GQ X.prog X.w X.K X.mg X.base C x k n F) (hr : RoomG k X.A) (hg : Gl X x) (ha : VA X C W (e :: es) ms) (hn : ∀ ρ ds ρ', ms ρ = .ok ds ρ' → ds.length = n) (hdb : (x == ("__debug__" : Str)) = false := by decide) (he : starEach (e :: es) X.env = (false, eval e X.env) :: starEach es X.env := by rfl) (hpl : (backTo pos (starEach es X.env)).any (·.1) = false := by rfl) :
    VE X C W (.Call (.Name x p) (e :: es) [] pos) (vF F ms) := by
  obtain ⟨fd, ps, H, hb⟩ := G.ex
  exact ve_call H hr hg G.hm G.hk hb (fun _ _ _ _ _ _ _ h => h.elim) ha hn hdb he hpl
theorem ve_gx (G : GX X.prog X.w X.K X.mg X.base C x k n F) (hr : RoomG k X.A) (tk : ∀ σ, PassesAt (L2.CX X.prog X.w) X σ (WE W σ)) (hg : Gl X x) (ha : VA X C W (e :: es) ms) (hn : ∀ ρ ds ρ', ms ρ = .ok ds ρ' → ds.length = n) (hdb : (x == ("__debug__" : Str)) = false := by decide) (he : starEach (e :: es) X.env = (false, eval e X.env) :: starEach es X.env := by rfl) (hpl : (backTo pos (starEach es X.env)).any (·.1) = false := by rfl) :
    VE X C W (.Call (.Name x p) (e :: es) [] pos) (vF F ms) := by
  obtain ⟨fd, ps, H, hb⟩ := G.ex
  exact ve_call H hr hg G.hm G.hk hb tk ha hn hdb he hpl
theorem vf_gn {F : List D → Option (List D)} (G : GN X.prog X.w X.K X.mg X.base C x k n F) (hr : RoomG k X.A) (hg : Gl X x) (ha : QA X C (e :: es) fs) (hn : (e :: es).length = n := by rfl) (hdb : (x == ("__debug__" : Str)) = false := by decide) (he : starEach (e :: es) X.env = (false, eval e X.env) :: starEach es X.env := by rfl) (hpl : (backTo pos (starEach es X.env)).any (·.1) = false := by rfl) :
    FE X C (.Call (.Name x p) (e :: es) [] pos) (vN F fs) := by
  obtain ⟨fd, ps, H, hb⟩ := G.ex
  refine wkE (pe_callG H hr hg G.hm G.hk hb .nil (C8.pass0 (E := C8.E0)) ha.pa hdb he hpl) fun σ H Q ⟨A, α, ρ, d, sr, q1, q⟩ => ?_
  obtain ⟨ds, e1, e2⟩ := bind_some q1
  refine ⟨A, α, ρ, ds, sr, e1, fun vs H1 g1 r1 => ?_⟩
  have s1 := sr.grow g1
  show spN X.K C n F (vs ++ []) H1 Q C8.E0
  rw [List.append_nil]
  exact ⟨Fb A α, ds, s1.dm, s1.tabs, r1, by rw [ha.len ρ ds e1]; exact hn, d, e2, fun a ws H' g2 n l r2 => q a ws H' (g1.trans g2) (g1.nn _ n) l r2⟩
theorem ve_gi {i : Nat} {y : Str} {py : Pos} {F : FIO} (G : GI X.prog X.w X.K X.mg X.base C x k n F) (hr : RoomG k X.A) (hg : Gl X x)
    (hN : X.N[i]? = some y) (hv : Vis X.env.scope y) (ha : VA X C W es ms) (hn : ∀ ρ ds ρ', ms ρ = .ok ds ρ' → ds.length = n) (hd : (y == ("__debug__" : Str)) = false := by decide) (hcd : (y == ("__classdict__" : Str)) = false := by decide)
    (hs : starEach (.Name y py :: es) X.env = (false, eval (.Name y py) X.env) :: starEach es X.env := by rfl) (hdb : (x == ("__debug__" : Str)) = false := by decide) (hpl : (backTo pos (starEach es X.env)).any (·.1) = false := by rfl) :
    VE X C W (.Call (.Name x p) (.Name y py :: es) [] pos) (vIO i F ms) := by
  obtain ⟨fd, ps, H, hb⟩ := G.ex
  exact ve_io H hr hg G.hm G.hk hb (C8.pass0 (E := C8.E0)) hN hv ha hn hd hcd hs hdb hpl
end
/-! ### what the head tells -/
structure TX (fa : List He.Fa) (fn : List He.DefD) (tf : List He.Defn) (ex : PySem.W.Frag → Bool) (K : PySem.W.Frag) (mg : Str → Option Value) (base : Heap) : Prop where
  sd : He.SaysD fa fn K
  kin : K.In base
  ns : base.Ns mainGlobals mg
  more : ex K = true
  tb : ∀ p ∈ tf, LamX.TabB base mg (He.cT K p).1 (He.cT K p).2
section
variable {fa : List He.Fa} {fn : List He.DefD} {tf : List He.Defn} {ex : PySem.W.Frag → Bool} {K : PySem.W.Frag} {mg : Str → Option Value} {base : Heap}
theorem TX.glo (T : TX fa fn tf ex K mg base) (i : Nat) {x : Str} (h : fa[i]? = some (.glo x) := by rfl) : mg x = some (.ref (He.ga K x)) := He.glo_ok T.kin T.ns (T.sd.fact i h)
theorem TX.free (T : TX fa fn tf ex K mg base) (i : Nat) {x : Str} (h : fa[i]? = some (.free x) := by rfl) : mg x = none := He.free_ok T.kin T.ns (T.sd.fact i h)
theorem TX.int (T : TX fa fn tf ex K mg base) (i : Nat) {x : Str} {z : Int} (h : fa[i]? = some (.int x z) := by rfl) : ∃ t, mg x = some (.int z t) := He.int_ok T.kin T.ns (T.sd.fact i h)
theorem TX.def_ (T : TX fa fn tf ex K mg base) (i : Nat) {x : Str} {a : Arguments} {b : List Stmt} {s : Scope} (h : fn[i]? = some ⟨(x, none), x, x, a, b, s, [], []⟩ := by rfl) : ∃ fd, FunD K x x a b s [] [] (He.ga K x) fd := T.sd.def_ i h
end
section
variable {P : Program} {w : World} {K : PySem.W.Frag} {mg : Str → Option Value} {base : Heap} {C : Ctx} {k : Nat} {x : Str} {params : Arguments} {body : List Stmt} {scope : Scope} {fd : FuncData} {N ps : List Str}
theorem gq_of {m : Rho → SRes} (F : FunD K x x params body scope [] [] (He.ga K x) fd) (S : FnScope N ps scope) (hl : ps.length ≤ N.length) (hm : mg x = some (.ref (He.ga K x))) (bn : L2.Binds K fd ps [])
    (hb : ∀ (cdv : Value) (Ar : Around) (outer : List Env) (s : Shared) (H : Hp) (E : XK), cdv = .ref (codeAt K (He.ga K x)) → RoomG k (Ar.deeper (envOfC x scope s.heap.objs.size (He.ga K x) cdv)) → QSs (cxOf C8.CX0 P w K mg base N x scope (He.ga K x) cdv Ar outer s H E).nox C W0 body m) :
    GQ P w K mg base C x (k + 1) ps.length (fun ds => fz (runF N.length m ds)) := ⟨⟨fd, ps, fn_ok F S hl hb, bn⟩, hm, F.kp⟩
theorem gx_of {m : Rho → SRes} (F : FunD K x x params body scope [] [] (He.ga K x) fd) (S : FnScope N ps scope) (hl : ps.length ≤ N.length) (hm : mg x = some (.ref (He.ga K x))) (bn : L2.Binds K fd ps [])
    (hb : ∀ (cdv : Value) (Ar : Around) (outer : List Env) (s : Shared) (H : Hp) (E : XK), cdv = .ref (codeAt K (He.ga K x)) → RoomG k (Ar.deeper (envOfC x scope s.heap.objs.size (He.ga K x) cdv)) → QSs (cxOf (L2.CX P w) P w K mg base N x scope (He.ga K x) cdv Ar outer s H E) C (WEx E) body m) :
    GX P w K mg base C x (k + 1) ps.length (runF N.length m) := ⟨⟨fd, ps, fn_okX F S hl hb, bn⟩, hm, F.kp⟩
theorem gi_of {m : Rho → SRes} (F : FunD K x x params body scope [] [] (He.ga K x) fd) (S : FnScope N ps scope) {n : Nat} (hp : ps.length = n + 1) (hl : ps.length ≤ N.length) (hm : mg x = some (.ref (He.ga K x))) (bn : L2.Binds K fd ps [])
    (hb : ∀ (cdv : Value) (Ar : Around) (outer : List Env) (s : Shared) (H : Hp) (E : XK), cdv = .ref (codeAt K (He.ga K x)) → RoomG k (Ar.deeper (envOfC x scope s.heap.objs.size (He.ga K x) cdv)) → QSs (cxOf C8.CX0 P w K mg base N x scope (He.ga K x) cdv Ar outer s H E).nox C W0 body m) :
    GI P w K mg base C x (k + 1) n (runI N.length m) := ⟨⟨fd, ps, fn_okI F S hp hl hb, bn⟩, hm, F.kp⟩
theorem gn_of {m : Rho → NRes} (F : FunD K x x params body scope [] [] (He.ga K x) fd) (S : FnScope N ps scope) (hl : ps.length ≤ N.length) (hm : mg x = some (.ref (He.ga K x))) (bn : L2.Binds K fd ps [])
    (hb : ∀ (cdv : Value) (Ar : Around) (outer : List Env) (s : Shared) (H : Hp) (E : XK), cdv = .ref (codeAt K (He.ga K x)) → RoomG k (Ar.deeper (envOfC x scope s.heap.objs.size (He.ga K x) cdv)) → QN (cxOf C8.CX0 P w K mg base N x scope (He.ga K x) cdv Ar outer s H E).nox C body m) :
    GN P w K mg base C x (k + 1) ps.length (runN N.length m) := ⟨⟨fd, ps, fn_okN F S hl hb, bn⟩, hm, F.kp⟩
/-- what a raising def's context takes -/
theorem takes_cx {N : List Str} {qual : Str} {scope : Scope} {f : Addr} {cd : Value} {A : Around} {outer : List Env} {s : Shared} {H : Hp} {E : XK} : Takes (cxOf (L2.CX P w) P w K mg base N qual scope f cd A outer s H E) (WEx E) := takes_of rfl rfl rfl rfl
theorem takes_lam {X : Cx} {A : Around} {outer : List Env} {s : Shared} {H : Hp} {E : XK} {scope : Scope} {f c' : Addr} : Takes (LamX.lamCx X A outer s H E scope f c') (WEx E) := takes_of rfl rfl rfl rfl
theorem owns_cx {N : List Str} {qual : Str} {scope : Scope} {f : Addr} {cd : Value} {A : Around} {outer : List Env} {s : Shared} {H : Hp} {E : XK} : PassesOwn (model P w) (cxOf (L2.CX P w) P w K mg base N qual scope f cd A outer s H E).A (cxOf (L2.CX P w) P w K mg base N qual scope f cd A outer s H E).env (cxOf (L2.CX P w) P w K mg base N qual scope f cd A outer s H E).xe := passes_of (X := cxOf (L2.CX P w) P w K mg base N qual scope f cd A outer s H E) rfl
end
end VL
end
section
set_option Elab.async false
set_option linter.all false
set_option maxRecDepth 100000
set_option maxHeartbeats 2000000
/-! VL20: slices of a list or a tuple, sorted of either kind, three names stored at once. -/
namespace VL
open PySem PySem.Spec L2
open PyProof.Rows hiding St
def slD (x : D) (l h : Option Int) : Option D := match x with
  | .tup xs => some (.tup (cutD xs l h))
  | .lst xs => some (.lst (cutD xs l h))
  | _ => none
def qSl (fa : Rho → Option D) (pl ph : Rho → Option (Option Int)) : Rho → Option D := fun ρ => (fa ρ).bind fun x => (pl ρ).bind fun l => (ph ρ).bind fun h => slD x l h
def vSl (m : Rho → Res D) (pl ph : Rho → Res (Option Int)) : Rho → Res D := fun ρ => bindR (m ρ) fun d ρ1 => bindR (pl ρ1) fun l ρ2 => bindR (ph ρ2) fun h ρ3 => optR (slD d l h) ρ3
section
variable {X : Cx} {C : Ctx} {W : WX} {a : Expr} {fa : Rho → Option D} {m : Rho → Res D} {pos : Pos}
theorem sl_any {K : PySem.W.Frag} {F : Addr → Prop} {H : Hp} {Q : VK} {x d : D} {l h : Option Int} {v : V} (dm : DmF F H) (r : RepB K C F H x v) (e : slD x l h = some d) (q : ∀ u H', Gro C H H' → Rep K C F H' d u → Q u H') : rSlA K v l h H Q ∨ rSlL K v l h H Q := by
  cases x <;> first | cases e | skip
  · obtain ⟨a, ws, rfl, lr, p⟩ := r.tupI
    refine .inl ⟨a, ws, rfl, lr, fun z => q _ _ Gro.refl ?_, fun _ b hb => q _ _ (Gro.new hb) (repNewT hb (cut_rep p))⟩
    rw [cut_whole (by rw [p.length]; exact z)]
    exact .tup lr p
  · obtain ⟨a, ws, rfl, lr, p⟩ := r.lstI
    exact .inr ⟨a, ws, rfl, lr, fun b hb => q _ _ (Gro.new hb) (repNewL dm hb (cut_rep p))⟩
theorem qe_sl {lo hi : Option Expr} {p2 : Pos} {pl ph : Rho → Option (Option Int)} (ha : BE X C a fa) (hl : QP X C lo pl) (hh : QP X C hi ph) : QE X C (.Subscript a (.Slice lo hi none p2) pos) (qSl fa pl ph) :=
  wkE (pe_slice (sl_tupA.or sl_list) ha hl hh) fun σ H Q ⟨A, α, ρ, d, s, e, q⟩ => by
    obtain ⟨x, e1, e⟩ := bind_some e
    obtain ⟨l, e3, e⟩ := bind_some e
    obtain ⟨hh, e4, e⟩ := bind_some e
    refine ⟨A, α, ρ, x, s, e1, fun v H1 g1 r1 => ⟨A, α, ρ, l, s.grow g1, e3, fun H2 g2 => ⟨A, α, ρ, hh, s.grow (g1.trans g2), e4, fun H3 g3 => ?_⟩⟩⟩
    have g := g1.trans (g2.trans g3)
    exact sl_any (s.grow g).dm ((r1.grow g2).grow g3) e fun u H' g4 r => q u H' (g.trans g4) r
theorem ve_sl {lo hi : Option Expr} {p2 : Pos} {pl ph : Rho → Res (Option Int)} (ha : VE X C W a m) (hl : VP X C W lo pl) (hh : VP X C W hi ph) : VE X C W (.Subscript a (.Slice lo hi none p2) pos) (vSl m pl ph) :=
  wkE (pe_slice (sl_tupA.or sl_list) ha hl hh) fun σ H Q ⟨A, α, ρ, sr, q⟩ => by
    refine ⟨A, α, ρ, sr, ?_⟩
    unfold vSl at q
    cases h1 : m ρ with
    | bad => rw [h1] at q; exact q.elim
    | ex c p ρ' => rw [h1] at q; exact q
    | ok d ρ1 =>
      rw [h1] at q
      simp only [bindR] at q
      intro α1 v H1 s1 t1 r1
      refine ⟨A, α1, ρ1, s1, ?_⟩
      cases h2 : pl ρ1 with
      | bad => rw [h2] at q; exact q.elim
      | ex c p ρ' => rw [h2] at q; exact fun α2 o H2 s2 t2 x => q α2 o H2 s2 (t1.trans t2) x
      | ok l ρ2 =>
        rw [h2] at q
        simp only [bindR] at q
        intro α2 H2 s2 t2
        refine ⟨A, α2, ρ2, s2, ?_⟩
        cases h3 : ph ρ2 with
        | bad => rw [h3] at q; exact q.elim
        | ex c p ρ' => rw [h3] at q; exact fun α3 o H3 s3 t3 x => q α3 o H3 s3 ((t1.trans t2).trans t3) x
        | ok h ρ3 =>
          rw [h3] at q
          simp only [bindR, optR] at q
          intro α3 H3 s3 t3
          cases h4 : slD d l h with
          | none => rw [h4] at q; exact q.elim
          | some y =>
            rw [h4] at q
            exact sl_any s3.dm (.inl ((r1.mv t2.mv).mv t3.mv)) h4 fun u H' g4 r => q α3 u H' (s3.grow g4) (((t1.trans t2).trans t3).trans (Stp.of_gro g4)) r
def sortedD (ds : List D) : Option (List D) := match sortedI ds with
  | some r => some r
  | none => sortedT ds
theorem bf_sorted : BF X C (.builtin "sorted") sortedD := by
  intro pins s σ H vs us Q I rv ⟨F, ds, xs, dm, r, e, q⟩
  unfold sortedD at e
  cases h : sortedI ds with
  | some y =>
    rw [h] at e
    cases e
    exact bf_sortedI pins s σ H vs us Q I rv ⟨F, ds, _, dm, r, h, q⟩
  | none =>
    rw [h] at e
    exact bf_sortedT pins s σ H vs us Q I rv ⟨F, ds, xs, dm, r, e, q⟩
/-- a, b, c = e1, e2, e3: plain local names, values -/
def sPar3 (i j l : Nat) (ms : Rho → Res (List D)) : Rho → SRes := fun ρ => match ms ρ with
  | .ok [d1, d2, d3] ρ' => if settable ρ' i && settable ρ' j && settable ρ' l then .nx (((ρ'.set i (.v d1)).set j (.v d2)).set l (.v d3)) else .bad
  | .ok _ _ => .bad
  | .ex c p ρ' => .ex c p ρ'
  | .bad => .bad
theorem qs_par3 {i j l : Nat} {x y z : Str} {a b c : Expr} {ms : Rho → Res (List D)} {px py pz pt pos : Pos} {kt k2 pt2} (hc : X.calm = true) (hN : X.N.Nodup) (hi : X.N[i]? = some x) (hj : X.N[j]? = some y) (hl : X.N[l]? = some z) (hij : i ≠ j) (hil : i ≠ l) (hjl : j ≠ l)
    (hx : X.env.scope.names.lookup x = some .local) (hy : X.env.scope.names.lookup y = some .local) (hz : X.env.scope.names.lookup z = some .local) (ha : VA X C W [a, b, c] ms)
    (hw : swappedStores [.Tuple [.Name x px, .Name y py, .Name z pz] kt pt] (.Tuple [a, b, c] k2 pt2) X.env = pure (some [x, y, z]))
    (hs : swapsWithSole [.Tuple [.Name x px, .Name y py, .Name z pz] kt pt] (.Tuple [a, b, c] k2 pt2) pos.line X.env = pure false := by rfl) :
    QS X C W (.Assign [.Tuple [.Name x px, .Name y py, .Name z pz] kt pt] (.Tuple [a, b, c] k2 pt2) pos) (sPar3 i j l ms) :=
  wkS (ps_par3 hc hN hi hj hl hij hil hjl hx hy hz ha hw hs) fun Dn σ H ⟨A, α, ρ, sr, q⟩ => by
    refine ⟨A, α, ρ, sr, ?_⟩
    unfold sPar3 at q
    split at q
    · rename_i d1 d2 d3 ρ' hf
      rw [hf]
      by_cases hst : (settable ρ' i && settable ρ' j && settable ρ' l) = true
      · rw [if_pos hst] at q
        simp only [Bool.and_eq_true] at hst
        intro α' vs H' s t r
        cases r with
        | cons r1 r =>
          cases r with
          | cons r2 r =>
            cases r with
            | cons r3 r =>
              cases r
              obtain ⟨a1, a2⟩ := settable_ok s hst.1.1
              obtain ⟨b1, b2⟩ := settable_ok s hst.1.2
              obtain ⟨c1, c2⟩ := settable_ok s hst.2
              refine ⟨_, _, _, rfl, q (off (off (off α' i) j) l) _ H' (((s.setD r1).setD (r2.mv (Mv.weak fb_off))).setD ((r3.mv (Mv.weak fb_off)).mv (Mv.weak fb_off))) (t.trans ((Stp.off a2).trans ((Stp.off (b2.elim .inl fun z => .inr (off_none z))).trans (Stp.off (c2.elim .inl fun z => .inr (off_none (off_none z)))))))⟩
      · rw [if_neg hst] at q
        exact q.elim
    · exact q.elim
    · rename_i c p ρ' hf
      rw [hf]
      exact fun α' o H' s t x => q α' σ o H' s t x
    · exact q.elim
end
/-! ### lengths of argument lists, by the form of ms -/
theorem mLenC {m : Rho → Res D} {ms : Rho → Res (List D)} {n : Nat} (h : ∀ ρ ds ρ', ms ρ = .ok ds ρ' → ds.length = n) : ∀ ρ ds ρ', mC m ms ρ = .ok ds ρ' → ds.length = n + 1 := fun ρ ds ρ' e => by
  unfold mC at e
  cases h1 : m ρ with
  | ok d ρ1 =>
    rw [h1] at e
    simp only [bindR] at e
    cases h2 : ms ρ1 with
    | ok ds2 ρ2 =>
      rw [h2] at e
      simp only [bindR] at e
      cases e
      rw [List.length_cons, h _ _ _ h2]
    | ex c p ρ2 => rw [h2] at e; simp only [bindR] at e; cases e
    | bad => rw [h2] at e; simp only [bindR] at e; cases e
  | ex c p ρ1 => rw [h1] at e; simp only [bindR] at e; cases e
  | bad => rw [h1] at e; simp only [bindR] at e; cases e
theorem mLenN : ∀ ρ ds ρ', mN ρ = .ok ds ρ' → ds.length = 0 := fun ρ ds ρ' e => by
  unfold mN at e
  cases e
  rfl
theorem mLe' {ms : Rho → Res (List D)} {n : Nat} (h : ∀ ρ ds ρ', ms ρ = .ok ds ρ' → ds.length = n) (hn : n ≤ 1000 := by decide) : ∀ ρ ds ρ', ms ρ = .ok ds ρ' → ds.length ≤ 1000 := fun ρ ds ρ' e => by
  rw [h ρ ds ρ' e]
  exact hn
end VL
end
section
set_option Elab.async false
set_option linter.all false
set_option maxRecDepth 100000
set_option maxHeartbeats 2000000
/-! VL21: the head's facts, widened by exception classes whose __init__ calls super(). -/
namespace VL
open PySem PySem.Spec L2
open PyProof.Rows hiding St
open PySem.VLX
structure SupD where
  x : Str
  fn : Str
  txt : Str
  B : String
  newId : String
  initId : String
  bmB : List Value
  params : Arguments
  body : List Stmt
abbrev SupW : Type := Option (Str × Str × Arguments × FuncBody × Scope × Addr × List Str × Addr)
def SupD.cA (d : SupD) (K : PySem.W.Frag) : Addr := He.ga K d.x
def SupD.fI (d : SupD) (K : PySem.W.Frag) : Addr := He.ma K (He.ga K d.x) "__init__"
def SupD.obs (d : SupD) (K : PySem.W.Frag) : SupW := match K.lookup (d.fI K) with
  | some ⟨_, _, .func fd, _⟩ => some (fd.name, fd.qualname, fd.params, fd.body, fd.scope, fd.globals, fd.closure.map (·.1), fd.builtins)
  | _ => none
def SupD.val (d : SupD) : SupW := some ("__init__", d.x ++ ".__init__", d.params, .stmts d.body, iS d.fn, mainGlobals, ["__class__"], builtinsNs)
def isNone : Value → Bool
  | .none => true
  | _ => false
theorem isNone_ok {v : Value} (h : isNone v = true) : v = .none := by
  cases v <;> first | rfl | cases h
def clsB (K : PySem.W.Frag) (C : Addr) (bmB : List Value) (newId : String) : Bool := match K.lookup C with
  | some ⟨.type "type", _, .cls cd, sl⟩ => (match sl.toList with
    | [_, _, _, _, some (.builtin n), _] => decide (cd.mro = .ref C :: bmB) && n == newId && !cd.hasDel && cd.hasDict
    | _ => false)
  | _ => false
def funB (K : PySem.W.Frag) (file q : Str) (C fI : Addr) : Bool := match K.lookup fI with
  | some ⟨_, _, .func fd, _⟩ => isNone fd.defaults && (isNone fd.kwdefaults && (match fd.code with
    | .ref cda => PySem.W.codeIn K (.ref cda) q && ((match K.lookup cda with
      | some ⟨_, _, .fields vs, _⟩ => (match (vs[2]? : Option Value) with
        | some (.str f _) => file == f
        | _ => false)
      | _ => false) && (match fd.closure with
        | [(_, cc)] => (match K.lookup cc with
          | some ⟨_, _, .cell (some (.ref C')), _⟩ => C' == C
          | _ => false)
        | _ => false))
    | _ => false))
  | _ => false
def SupD.ok (d : SupD) (file : Str) (K : PySem.W.Frag) : Bool :=
  clsB K (d.cA K) d.bmB d.newId && (funB K file (d.x ++ ".__init__") (d.cA K) (d.fI K) && (He.eqO (PySem.W.nsIn K mainGlobals d.x) (some (some (.ref (d.cA K)))) && (He.eqO (PySem.W.findIn K (.ref (d.cA K)) "__setattr__") (some (some (.builtin "object.__setattr__"))) &&
    (He.eqO (PySem.W.findIn K (.ref (d.cA K)) d.fn) (some none) && (He.eqO (PySem.W.findIn K (.ref (d.cA K)) "__init__") (some (some (.ref (d.fI K)))) && (decide (PySem.W.typeIn K (.ref (d.fI K)) = some (.type "function")) && (PySem.W.keepIn K (.ref (d.cA K)) &&
    (decide (PySem.W.subIn K (.ref (d.cA K)) (.type "BaseException") = some true) && (decide (PySem.W.typeIn K (.ref (d.cA K)) = some (.type "type")) && (decide (PySem.W.mroIn K (d.cA K) (.ref (d.cA K)) = some true) && (decide (PySem.W.subIn K (.ref (d.cA K)) (.type d.B) = some true) &&
    (He.eqO (PySem.W.ks_superIn K (d.cA K) (d.cA K) "__init__") (some (some (.builtin d.initId))) && (He.eqO (PySem.W.nsIn K cStatics "thirdparty.any") (some none) && (He.eqO (PySem.W.nsIn K mainGlobals "super") (some none) && L2.xfB K (d.cA K)))))))))))))))
theorem clsB_ok {K : PySem.W.Frag} {C : Addr} {bmB : List Value} {newId : String} (q : clsB K C bmB newId = true) : ∃ nm q N bs sn sub ab col dd k0 k1 k2 k3 k5, K.lookup C = some (excClassObj nm q C N bs bmB true sn sub ab col dd k0 k1 k2 k3 k5 newId) := by
  unfold clsB at q
  split at q
  · rename_i dd cd sl ho
    split at q
    · rename_i k0 k1 k2 k3 n k5 hs
      simp only [Bool.and_eq_true, beq_iff_eq, Bool.not_eq_true', decide_eq_true_eq] at q
      obtain ⟨⟨⟨hm, rfl⟩, hdel⟩, hd⟩ := q
      obtain ⟨nm, bs, mro, ns, qn, hd', sn, sub, ab, col, del⟩ := cd
      dsimp only at hm hdel hd
      subst hm hdel hd
      have hsl : sl = #[k0, k1, k2, k3, some (.builtin n), k5] := by
        obtain ⟨l⟩ := sl
        simp only at hs
        rw [hs]
      subst hsl
      exact ⟨nm, qn, ns, bs, sn, sub, ab, col, dd, k0, k1, k2, k3, k5, ho⟩
    · cases q
  · cases q
theorem SupD.ext {d : SupD} {P : Program} {K : PySem.W.Frag} {mg : Str → Option Value} {h : Heap} {file : Str} (X : K.In h) (G : h.Ns mainGlobals mg) (o : d.obs K = d.val) (c : d.ok file K = true) (hP : P.main.file = file) (top : (P.main.scope.names.lookup ("super" : Str)).isSome = false)
    {k : Nat} {p1 p2 q1 q2 q3 q4 q5 q6 q7 q8 q9 q10 : Pos} (hp : d.params = iA d.fn p1 p2) (hb : d.body = iB d.fn d.txt k q1 q2 q3 q4 q5 q6 q7 q8 q9 q10)
    (hev : ∃ pl : Sem Bool, ∀ (L fI cda cc : Addr), eval (.Call (.Attribute (.Call (.Name "super" q1) [] [] q2) "__init__" q3) [.Constant (.str d.txt) k q4] [] q5) (PySem.W.ksEnv (d.x ++ ".__init__") (iS d.fn) L fI (.ref cda) cc) = (do
        let ov ← attributeBase (.Call (.Name "super" q1) [] [] q2) "__init__" (PySem.W.ksEnv (d.x ++ ".__init__") (iS d.fn) L fI (.ref cda) cc) (eval (.Call (.Name "super" q1) [] [] q2) (PySem.W.ksEnv (d.x ++ ".__init__") (iS d.fn) L fI (.ref cda) cc))
        standAt q3.atName
        let (f, first) ← holding [ov] (getMethod ov "__init__" pl)
        callWith q5 f first (backTo q5 (starEach [.Constant (.str d.txt) k q4] (PySem.W.ksEnv (d.x ++ ".__init__") (iS d.fn) L fI (.ref cda) cc))) [])) :
    ExT P K mg d.x d.fn d.txt d.B d.newId d.initId d.bmB (d.cA K) (d.fI K) ∧ L2.XfC K (d.cA K) := by
  unfold SupD.ok at c
  simp only [Bool.and_eq_true, decide_eq_true_eq] at c
  obtain ⟨c1, c2, c3, c4, c5, c6, c7, c8, c9, c10, c11, c12, c13, c14, c15, c16⟩ := c
  refine ⟨⟨PySem.W.mg_of X G (He.eqO_ok c3), clsB_ok c1, He.eqO_ok c4, He.eqO_ok c5, He.eqO_ok c6, c7, c8, c9, c10, c11, c12, PySem.W.mg_none_of X G (He.eqO_ok c15), He.eqO_ok c13, He.eqO_ok c14, top, ?_⟩, L2.xfB_ok c16⟩
  unfold SupD.obs at o
  unfold funB at c2
  split at c2
  · rename_i oc od fd osl lk
    rw [lk] at o
    obtain ⟨n1, n2, n3, n4, n5, n6, n7, n8, n9, n10, n11, n12, n13, n14, n15⟩ := fd
    have o : (some (n1, n2, n3, n4, n5, n6, n7.map (·.1), n15) : SupW) = some (PySem.Str.ofString "__init__", d.x ++ PySem.Str.ofString ".__init__", d.params, FuncBody.stmts d.body, iS d.fn, mainGlobals, [PySem.Str.ofString "__class__"], builtinsNs) := o
    simp only [Option.some.injEq, Prod.mk.injEq] at o
    obtain ⟨h1, h2, h3, h4, h5, h6, h7, h8⟩ := o
    dsimp only at c2
    subst h1 h2 h3 h4 h5 h6 h8
    rw [Bool.and_eq_true, Bool.and_eq_true] at c2
    obtain ⟨d1, d2, d3⟩ := c2
    cases n13 with
    | ref cda =>
      dsimp only at d3
      rw [Bool.and_eq_true, Bool.and_eq_true] at d3
      obtain ⟨e1, e2, e3⟩ := d3
      split at e2
      · rename_i ccl cdd vs ccs lc
        split at e2
        · rename_i ff tf hv
          split at e3
          · rename_i nm cc
            split at e3
            · rename_i cl cld C' csl lcc
              have hn : nm = "__class__" := by simpa using h7
              have hC : C' = d.cA K := by simpa using e3
              subst hn hC
              obtain ⟨pl, hpl⟩ := hev
              refine ⟨oc, od, n10, n11, n12, cda, cc, n14, osl, p1, p2, q1, q2, q3, q4, q5, q6, q7, q8, q9, q10, k, ?_, e1, ⟨ccl, cdd, vs, ccs, ff, tf, lc, hv, by rw [hP]; exact e2⟩, ⟨cl, cld, csl, lcc⟩, pl, fun L => hpl L _ _ _⟩
              rw [lk, isNone_ok d1, isNone_ok d2, hp, hb]
            · cases e3
          · cases e3
        · cases e2
      · cases e2
    | _ => cases d3
  · cases c2
/-! ### the hook: HandS's hookX over a part that holds the statics too, and the classes' __init__ -/
abbrev AlV : Type := He.AlT × Bool × List SupW
section
variable (n : Nat) (fa : List He.Fa) (fn : List He.DefD) (ts : List He.Tab) (tf : List He.Defn) (ex : PySem.W.Frag → Bool) (sd : List SupD)
def frV (g : Addr → Option Obj) : PySem.W.Frag := He.frT g (cStatics :: He.asD g n)
def obsV (g : Addr → Option Obj) : AlV := (He.obsT fa fn ts (frV n g), ex (frV n g) && He.tabsB g tf (frV n g), sd.map fun d => d.obs (frV n g))
def valV (w : World) : AlV := (He.valT fn ts w, true, sd.map SupD.val)
theorem saysV_of {w : World} {h : Heap} (e : obsV n fa fn ts tf ex sd h.get? = valV fn ts sd w) : He.SaysX fa fn ts tf ex w h (frV n h.get?) ∧ ∀ d ∈ sd, d.obs (frV n h.get?) = d.val := by
  have e1 : He.obsT fa fn ts (frV n h.get?) = He.valT fn ts w := congrArg (fun z : AlV => z.1) e
  have e2 : (ex (frV n h.get?) && He.tabsB h.get? tf (frV n h.get?)) = true := congrArg (fun z : AlV => z.2.1) e
  have e3 : (sd.map fun d => d.obs (frV n h.get?)) = sd.map SupD.val := congrArg (fun z : AlV => z.2.2) e
  obtain ⟨h1, h2⟩ := He.ba e2
  have key : ∀ p ∈ tf, PySem.W.codeHdIn (frV n h.get?) (He.cT (frV n h.get?) p).1 (He.cT (frV n h.get?) p).2 = true ∧ ∃ o, h.get? (He.cT (frV n h.get?) p).2 = some o ∧ He.emptyTab o = true := fun p hp => by
    obtain ⟨h3, h4⟩ := He.ba (List.all_eq_true.mp h2 p hp)
    refine ⟨h3, ?_⟩
    cases q : h.get? (He.cT (frV n h.get?) p).2 with
    | none =>
      rw [q] at h4
      cases h4
    | some o =>
      rw [q] at h4
      exact ⟨o, rfl, h4⟩
  exact ⟨⟨e1, h1, fun p hp => (key p hp).1, fun p hp => by
    obtain ⟨_, o, q, z⟩ := key p hp
    exact He.frT_none q z, fun p hp => by
    obtain ⟨_, o, q, z⟩ := key p hp
    rw [q, He.emptyTab_eq z]⟩, fun d hd => List.map_inj_left.mp e3 d hd⟩
def hookV : PySem.W.Hook where
  α := AlV
  obs := fun s => obsV n fa fn ts tf ex sd s.heap.get?
  val := fun w => valV fn ts sd w
  says := fun w h => ∃ K : PySem.W.Frag, K.In h ∧ He.SaysX fa fn ts tf ex w h K ∧ ∀ d ∈ sd, d.obs K = d.val
  of := fun _ _ e => ⟨_, He.frT_in, saysV_of _ _ _ _ _ _ _ e⟩
  keeps := fun _ _ _ ⟨K, hK, c, o⟩ k => ⟨K, PySem.W.Frag.In.keeps hK k, ⟨c.t, c.more, c.hd, c.out, fun p hp => k _ _ (c.empty p hp)⟩, o⟩
theorem obsV_eq {g : Addr → Option Obj} {s : Shared} (h : ∀ a, g a = s.heap.get? a) : obsV n fa fn ts tf ex sd g = (hookV n fa fn ts tf ex sd).obs s := by
  have e : g = s.heap.get? := funext h
  rw [e] <;> rfl
end
end VL
end
section
set_option Elab.async false
set_option linter.all false
set_option maxRecDepth 100000
set_option maxHeartbeats 2000000
/-! VL22: constants by name, facts by index, ranges with changing bounds, the law called. -/
namespace VL
open PySem PySem.Spec L2
open PyProof.Rows hiding St
theorem RoomG.u64 {k : Nat} {A : Around} (r : RoomG k A) : A.units + 64 < cLine := by have := r.un; omega
section
variable {X : Cx} {C : Ctx} {W : WX} {x : Str} {pos p : Pos} {a b : Expr} {tg : Expr} {m ma mb : Rho → Res D}
theorem qe_int_glob {z : Int} (hg : Gl X x) (hm : ∃ t, X.mg x = some (.int z t)) (hd : (x == ("__debug__" : Str)) = false := by decide) : QE X C (.Name x pos) (qC (.int z)) := by
  obtain ⟨t, h⟩ := hm
  exact qe_glob hg h (v := .int z) ⟨t, rfl⟩ (fun _ _ => .int _) hd
theorem qe_str_glob {z : Str} (hg : Gl X x) (hm : ∃ t, X.mg x = some (.str z t)) (hd : (x == ("__debug__" : Str)) = false := by decide) : QE X C (.Name x pos) (qC (.str z)) := by
  obtain ⟨t, h⟩ := hm
  exact qe_glob hg h (v := .str z) ⟨t, rfl⟩ (fun _ _ => .str _) hd
def mRange1 (m : Rho → Res D) : Rho → Res (List D) := fun ρ => bindR (m ρ) fun d ρ1 => match rangeD [d] with
  | some xs => .ok xs ρ1
  | none => .bad
def mRange2 (ma mb : Rho → Res D) : Rho → Res (List D) := fun ρ => bindR (ma ρ) fun d ρ1 => bindR (mb ρ1) fun e ρ2 => match rangeD [d, e] with
  | some xs => .ok xs ρ2
  | none => .bad
theorem vi_range1 (hg : Gl X "range") (hm : X.mg "range" = none) (ha : VE X C W a m) (hs : starEach [a] X.env = [(false, eval a X.env)] := by rfl) : VI X C W tg (.Call (.Name "range" p) [a] [] pos) (mRange1 m) :=
  wkI (pi_range1 hg hm (pa_cons ha pa_nil hs) hs) fun σ H Q ⟨A, α, ρ, sr, q⟩ => by
    refine ⟨A, α, ρ, sr, ?_⟩
    unfold mRange1 at q
    cases h1 : m ρ with
    | bad => rw [h1] at q; exact q.elim
    | ex c p ρ' => rw [h1] at q; exact q
    | ok d ρ1 =>
      rw [h1] at q
      simp only [bindR] at q
      intro α1 v H1 s1 t1 r1
      cases d <;> first | exact q.elim | skip
      rename_i j
      unfold rangeD at q
      by_cases hc : small62 j = true
      · simp only [hc, if_true] at q
        obtain ⟨c1, c2⟩ := small62_ok hc
        cases r1
        exact ⟨j, rfl, c1, c2, q α1 _ H1 s1 t1 itr_rng⟩
      · simp only [hc] at q
        exact q.elim
theorem vi_range2 (hg : Gl X "range") (hm : X.mg "range" = none) (ha : VE X C W a ma) (hb : VE X C W b mb) (hs : starEach [a, b] X.env = [(false, eval a X.env), (false, eval b X.env)] := by rfl) (hs2 : starEach [b] X.env = [(false, eval b X.env)] := by rfl) : VI X C W tg (.Call (.Name "range" p) [a, b] [] pos) (mRange2 ma mb) :=
  wkI (pi_range2 hg hm (pa_cons ha (pa_cons hb pa_nil hs2) (by rw [hs, hs2])) hs hs2) fun σ H Q ⟨A, α, ρ, sr, q⟩ => by
    refine ⟨A, α, ρ, sr, ?_⟩
    unfold mRange2 at q
    cases h1 : ma ρ with
    | bad => rw [h1] at q; exact q.elim
    | ex c p ρ' => rw [h1] at q; exact q
    | ok d ρ1 =>
      rw [h1] at q
      simp only [bindR] at q
      intro α1 v H1 s1 t1 r1
      refine ⟨A, α1, ρ1, s1, ?_⟩
      cases h2 : mb ρ1 with
      | bad => rw [h2] at q; exact q.elim
      | ex c p ρ' => rw [h2] at q; exact fun α' o H' s t x => q α' o H' s (t1.trans t) x
      | ok e ρ2 =>
        rw [h2] at q
        simp only [bindR] at q
        intro α2 v2 H2 s2 t2 r2
        cases d <;> first | exact q.elim | skip
        cases e <;> first | exact q.elim | skip
        rename_i i j
        unfold rangeD at q
        by_cases hc : (small62 i && small62 j) = true
        · simp only [hc, if_true] at q
          rw [Bool.and_eq_true] at hc
          obtain ⟨c1, c2⟩ := small62_ok hc.1
          obtain ⟨c3, c4⟩ := small62_ok hc.2
          cases r1
          cases r2
          exact ⟨i, j, rfl, ⟨c1, c2, c3, c4⟩, q α2 _ H2 s2 (t1.trans t2) itr_rng⟩
        · simp only [hc] at q
          exact q.elim
end
section
variable {fa : List He.Fa} {fn : List He.DefD} {tf : List He.Defn} {ex : PySem.W.Frag → Bool} {K : PySem.W.Frag} {mg : Str → Option Value} {base : Heap}
theorem TX.str_ (T : TX fa fn tf ex K mg base) (i : Nat) {x z : Str} (h : fa[i]? = some (.str x z) := by rfl) : ∃ t, mg x = some (.str z t) := He.str_ok T.kin T.ns (T.sd.fact i h)
theorem TX.exm (T : TX fa fn tf ex K mg base) (i : Nat) {x y : Str} {b : Bool} (h : fa[i]? = some (.exm x y b) := by rfl) : PySem.W.exmOne K (.ref (He.ga K x)) (.ref (He.ga K y)) = some b := He.exm_ok (T.sd.fact i h)
theorem TX.keep (T : TX fa fn tf ex K mg base) (i : Nat) {x : Str} (h : fa[i]? = some (.keep x) := by rfl) : PySem.W.keepIn K (.ref (He.ga K x)) = true := He.keep_ok (T.sd.fact i h)
/-- an own class without fields over ValueError -/
theorem qs_raiseF {X : Cx} {C : Ctx} {W : WX} (T : TX fa fn tf ex X.K X.mg base) (i j : Nat) {c : Nat} {x t : Str} {jj : Nat} {p p2 pos pos2 : Pos} (h : fa[i]? = some (.exc x) := by rfl) (h2 : fa[j]? = some (.glo x) := by rfl) (hc : X.calm = true) (tk : Takes X W) (hcl : C.cls c = .ref (He.ga X.K x)) (hfl : C.fld c = none) (hg : Gl X x) (hdb : (x == ("__debug__" : Str)) = false := by decide) :
    QS X C W (.Raise (some (.Call (.Name x p) [.Constant (.str t) jj p2] [] pos)) none pos2) (sRaiseT c) := by
  obtain ⟨c1, c2, c3, c4⟩ := He.exc_ok (T.sd.fact i h)
  exact qs_raiseT hc tk F.excBase_ValueError c1 (T.glo j h2) c2 (raises_own c3 c4) hcl hfl hg hdb
def tabL (K : PySem.W.Frag) (tf : List He.Defn) : List (Addr × Str) := tf.map fun p => ((He.cT K p).2, p.1 ++ PySem.Str.ofString ".<locals>." ++ PySem.Str.ofString "<lambda>")
def tabsNd (K : PySem.W.Frag) (tf : List He.Defn) : Bool := decide ((tf.map fun p => (He.cT K p).2).Nodup)
theorem nodup_inj {α β : Type} {f : α → β} : ∀ {l : List α}, (l.map f).Nodup → ∀ {x y : α}, x ∈ l → y ∈ l → f x = f y → x = y
  | [], _, _, _, h, _, _ => by cases h
  | z :: l, hn, x, y, hx, hy, e => by
    obtain ⟨h1, h2⟩ := List.nodup_cons.mp hn
    rcases List.mem_cons.mp hx with e1 | m1
    · rcases List.mem_cons.mp hy with e2 | m2
      · rw [e1, e2]
      · exact absurd (by rw [← e1, e]; exact List.mem_map_of_mem m2) h1
    · rcases List.mem_cons.mp hy with e2 | m2
      · exact absurd (by rw [← e2, ← e]; exact List.mem_map_of_mem m1) h1
      · exact nodup_inj h2 m1 m2 e
theorem tab_mem {K : PySem.W.Frag} {p : He.Defn} (h : p ∈ tf) : ((He.cT K p).2, p.1 ++ PySem.Str.ofString ".<locals>." ++ PySem.Str.ofString "<lambda>") ∈ tabL K tf := List.mem_map_of_mem (f := fun p : He.Defn => ((He.cT K p).2, p.1 ++ PySem.Str.ofString ".<locals>." ++ PySem.Str.ofString "<lambda>")) h
theorem tab_hu {K : PySem.W.Frag} {p : He.Defn} (nd : tabsNd K tf = true) (h : p ∈ tf) : ∀ z ∈ tabL K tf, z.1 = (He.cT K p).2 → z.2 = p.1 ++ PySem.Str.ofString ".<locals>." ++ PySem.Str.ofString "<lambda>" := fun z hz e => by
  obtain ⟨q, hq, rfl⟩ := List.mem_map.mp hz
  rw [nodup_inj (of_decide_eq_true nd) hq h e]
end
/-- the exceptions' clauses: what is matched, by numbers -/
theorem hm_nil {K : PySem.W.Frag} {C : Ctx} {c : Value} : ∀ n b, (fun _ : Nat => (none : Option Bool)) n = some b → PySem.W.exmOne K (C.cls n) c = some b := fun _ _ h => nomatch h
end VL
end
section
set_option Elab.async false
set_option linter.all false
set_option maxRecDepth 100000
set_option maxHeartbeats 2000000
/-! VL23: {}. -/
namespace VL
open PySem PySem.Spec L2
open PyProof.Rows hiding St
/-- a dict that has just come -/
theorem dn_ok {P : Program} {w : World} {H : Hp} {h : Heap} {a : Addr} {o : Obj} (e : h.get? a = some o) : ObjOk P w H h a (DN a o) :=
  ⟨e, ⟨_, e⟩, fun h1 h2 z st => st o z⟩
theorem dno_nil {w : World} {a : Addr} (h : (a == sysModules) = false) : DNo w a { cls := .type "dict", data := .dict #[] } [] :=
  ⟨h, Nat.zero_le _, [], .nil, ⟨rfl, rfl, rfl⟩, #[], 0, rfl, rfl, List.nodup_nil⟩
section
variable {X : Cx} {C : Ctx} {pos : Pos}
theorem qe_dict0 : QE X C (.Dict [] [] pos) (qC (.dic [] [])) := ⟨fun pins s σ H Q I ⟨A, α, ρ, d, sr, e, q⟩ => by
  cases e
  have e0 : (s.heap.push { cls := .type "dict", data := .dict #[] }).get? s.heap.objs.size = some { cls := .type "dict", data := .dict #[] } := Heap.get?_push_size _ rfl
  have hn := I.hok.fresh (Nat.le_refl s.heap.objs.size)
  have hs : (s.heap.objs.size == sysModules) = false := (dk_empty (P := X.prog) (w := X.w) (H := H) s.heap I.big).2.1
  refine wpAny_Dict_empty ⟨.ref s.heap.objs.size, _, I.laid (a := s.heap.objs.size) (o := DN s.heap.objs.size { cls := .type "dict", data := .dict #[] }) (t' := s.toks) (fun _ _ q => Heap.get?_push_of_some _ q) (Nat.le_refl _) (dn_ok e0), rfl, ?_⟩
  exact q _ _ (Gro.new hn) (.dic (xs := []) upd_same (dno_nil hs) rfl .nil .nil)⟩
end
end VL
end
section
set_option Elab.async false
set_option linter.all false
set_option maxRecDepth 100000
set_option maxHeartbeats 2000000
/-! VL24: the end: the law's call, where it is known that no repr is under way. -/
namespace VL
open PySem PySem.Spec L2
open PyProof.Rows hiding St
open LamX
/-- the law called (HandS's rule, turned to FnOkG) -/
theorem law_callG {P : Program} {w : World} {K : PySem.W.Frag} {mg mb : Str → Option Value} {CX : CXT} {k : Nat} {fa a : Addr} {cs : List (Addr × Addr)} {fd : FuncData} {x : Str} {sp : Sp} {s₁ : Shared} {vs : List Value} {ns : List Int}
    (KX : K.In s₁.heap) (hns : s₁.heap.Ns mainGlobals mg) (hb : s₁.heap.Ns builtinsNs mb) (hbb : ∀ x : Str, x ≠ "__name__" → mb x = bootBuiltins x) (hlim : s₁.heap.NoLimit) (hg : s₁.gens = #[])
    (hT : ∀ p ∈ cs, s₁.heap.get? p.2 = some { cls := .none, data := .fields #[] }) (nT : ∀ p ∈ cs, K.lookup p.2 = none) (C : ∀ p ∈ cs, PySem.W.CodeHd s₁.heap p.1 p.2)
    (hbm : ∃ (bm : Addr) (ob : Obj), mg "__builtins__" = some (.ref bm) ∧ bm ≠ builtinsNs ∧ s₁.heap.get? bm = some ob ∧ ob.cls = .type "module" ∧ ob.dict = some builtinsNs ∧ ob.data = .plain)
    (ha : s₁.heap.get? a = some { cls := .type "list", data := .seq vs.toArray }) (hi : IntsAre vs ns) (hl : ns.length ≤ sizeLine) (hr : RoomG k callerA)
    (F : ∀ base : Heap, K.In base → base.Ns mainGlobals mg → (∀ p ∈ cs, TabB base mg p.1 p.2) → FnOkG P w K mg base CX k fa fd [x] sp) (hbind : ∀ (s : Shared) (u : Value), BindsTo s fd ⟨[u], []⟩ [(x, u)])
    (hsp : ∀ H : Hp, (∀ p ∈ cs, H p.2 = some (.tbl #[])) → SqL K H a (ns.map V.int) → sp [.ref a] H (fun v _ => v = .bl true) fun _ _ _ => False)
    (hCX : ∀ H e s', CX [] H s₁ (fun _ _ _ => False) e s' → False) :
    codeAny (model P w) callerA (.call (.ref fa) ⟨[.ref a], []⟩) (fun r s' => r = .ok (.ret (.bool true)) ∧ OldK s₁.heap s'.heap ∧ s'.os = s₁.os ∧ AllBare s'.gens) s₁ := by
  have rv := vals_ints hi
  have lenV := hi.length
  have isT : ∀ b : Addr, b ∈ cs.map (·.2) → s₁.heap.get? b = some { cls := .none, data := .fields #[] } := fun b hb => by
    obtain ⟨p, hp, e⟩ := List.mem_map.mp hb
    rw [← e]
    exact hT p hp
  have aT : a ∉ cs.map (·.2) := fun z => by
    have q := isT a z
    rw [ha] at q
    have z' : Data.seq vs.toArray _ = Data.fields #[] := congrArg Obj.data (Option.some.inj q)
    cases z'
  have memT : ∀ p ∈ cs, p.2 ∈ cs.map (·.2) := fun p hp => List.mem_map.mpr ⟨p, hp, rfl⟩
  -- from an abstract heap in which nothing but the script and the tables may be tracked
  have core : ∀ H : Hp, (∀ p ∈ cs, H p.2 = some (.tbl #[])) → (∀ b, H b = none ∨ b ∈ cs.map (·.2) ∨ ∃ o xs, H b = some (.frz o (.lst xs))) → SqL K H a (ns.map V.int) → HOk P w H s₁.heap → (∀ b, H b ≠ none → b = a ∨ b ∈ cs.map (·.2)) → (H a ≠ none → K.lookup a = none) →
      codeAny (model P w) callerA (.call (.ref fa) ⟨[.ref a], []⟩) (fun r s' => r = .ok (.ret (.bool true)) ∧ OldK s₁.heap s'.heap ∧ s'.os = s₁.os ∧ AllBare s'.gens) s₁ := by
    intro H hH hO hS hok hA hK
    have base_of : ∀ {b : Addr} {o : Obj}, s₁.heap.get? b = some o → H b = none → (hidT s₁.heap H).get? b = some o := fun e n => hidT_get e n
    have noD : ∀ {b : Addr} {o : Obj}, s₁.heap.get? b = some o → (∀ vs n, o.data ≠ .seq vs n) → o.data ≠ .fields #[] → H b = none := fun {b o} e h1 h2 => by
      cases q : H b with
      | none => rfl
      | some u =>
        rcases hA b (by rw [q]; simp) with e' | e'
        · rw [e', ha] at e
          cases e
          exact (h1 _ _ rfl).elim
        · rw [isT b e'] at e
          cases e
          exact (h2 rfl).elim
    have noA : ∀ {b : Addr} {o : Obj} {es : Array DictEntry} {ep : Nat}, s₁.heap.get? b = some o → o.data = .dict es ep → H b = none := fun {b o es ep} e d => by
      refine noD e (fun vs n z => ?_) fun z => ?_
      · rw [d] at z
        cases z
      · rw [d] at z
        cases z
    have nsK : ∀ {b : Addr} {m : Str → Option Value}, s₁.heap.Ns b m → (hidT s₁.heap H).Ns b m := fun {b m} ⟨o, es, ep, e, d, r⟩ => ⟨o, es, ep, base_of e (noA e d), d, r⟩
    have hKb : K.In (hidT s₁.heap H) := fun b o e => base_of (KX b o e) (by
      cases q : H b with
      | none => rfl
      | some u =>
        rcases hA b (by rw [q]; simp) with e' | e'
        · rw [e'] at e q
          rw [hK (by rw [q]; simp)] at e
          cases e
        · obtain ⟨p, hp, ep⟩ := List.mem_map.mp e'
          rw [← ep, nT p hp] at e
          cases e)
    have hM : L2.Mod K mg (hidT s₁.heap H) := ⟨hKb, nsK hns, ⟨mb, nsK hb, hbb⟩, let ⟨mc, h1, h2⟩ := hlim; ⟨mc, nsK h1, h2⟩⟩
    have TB : ∀ p ∈ cs, TabB (hidT s₁.heap H) mg p.1 p.2 := fun p hp => by
      have hTp := hT p hp
      refine ⟨?_, ?_, fun z => ?_⟩
      · obtain ⟨o, us, file, tf, flags, tg, inF, text, tt, e1, r1, r2, r3, r4, r5, r6, r7, r8, hne⟩ := C p hp
        refine ⟨o, us, file, tf, flags, tg, inF, text, tt, base_of e1 (noD e1 (fun vs n z => ?_) fun z => ?_), r1, r2, r3, r4, r5, r6, r7, r8, hne⟩
        · rw [r2] at z
          cases z
        · rw [r2] at z
          cases z
          simp at r3
      · obtain ⟨bm, ob, b1, b2, b3, b4, b5, b6⟩ := hbm
        have nG : bm ≠ mainGlobals := fun q => by
          obtain ⟨o, es, ep, e, hd, _⟩ := hns
          rw [q, e] at b3
          cases b3
          rw [hd] at b6
          cases b6
        have nP : bm ≠ p.2 := fun q => by
          rw [q, hTp] at b3
          cases b3
          cases b6
        refine ⟨bm, ob, b1, b2, nG, nP, base_of b3 (noD b3 (fun vs n z => ?_) fun z => ?_), b4, b5, b6⟩
        · rw [b6] at z
          cases z
        · rw [b6] at z
          cases z
      · obtain ⟨o, es, ep, e, hd, _⟩ := hns
        rw [z, hTp] at e
        cases e
        cases hd
    have e0 : Env0 P w K mg (hidT s₁.heap H) callerA [] s₁ H := ⟨rfl, hM, fun b o e => of_hidT e, Nat.le_of_eq (hidT_size _ _), trivial, fun b hb => absurd (show b ∈ ([] : List Addr) from hb) (by simp), hok, .of_eq hg⟩
    refine codeAny_mono ((F _ hKb (nsK hns) TB).run callerA [] s₁ H ⟨[.ref a], []⟩ [.ref a] [.ref a] _ _ hr e0 (hbind s₁ (.ref a)) (.cons rfl .nil) (hsp H hH hS)) fun r s' h => ?_
    cases r with
    | error e => exact (hCX H e s' h).elim
    | ok fl =>
      cases fl with
      | next => exact False.elim h
      | brk => exact False.elim h
      | cont => exact False.elim h
      | ret u =>
        obtain ⟨v, H', os, bare, un, hok', r', q⟩ := h
        have q' : v = .bl true := q
        subst q'
        obtain rfl : u = Value.bool true := r'
        have key : ∀ b o, b ∉ cs.map (·.2) → s₁.heap.get? b = some o → s'.heap.get? b = some o := fun b o nb e => by
          cases q : H b with
          | none => exact un.keep b o e q (by intro z; exact absurd (show b ∈ ([] : List Addr) from z) (by simp)) (by simp)
          | some u =>
            rcases hO b with z | z | ⟨ob, xs, z⟩
            · rw [q] at z; cases z
            · exact absurd z nb
            · have z2 := un.frzs b ob _ z
              obtain ⟨e1, _⟩ := hok b _ z
              obtain ⟨e2, _⟩ := hok' b _ z2
              rw [e] at e1; cases e1
              exact e2
        have grown : ∀ p ∈ cs, ∃ more : Array Value, s'.heap.get? p.2 = some { cls := .none, data := .fields more } := fun p hp => by
          obtain ⟨more, z⟩ := un.tbls p.2 #[] (hH p hp)
          exact ⟨_, hok' p.2 _ z⟩
        refine ⟨rfl, ⟨fun b o e => ?_, fun b o e => ?_⟩, os, bare⟩
        · by_cases hb : b ∈ cs.map (·.2)
          · obtain ⟨p, hp, ep⟩ := List.mem_map.mp hb
            obtain ⟨more, hm⟩ := grown p hp
            rw [← ep] at e ⊢
            rw [hT p hp] at e
            cases e
            exact .inr (.inl ⟨((C p hp).tab (hT p hp)).isCodeTable, rfl, #[], more, rfl, by rw [Array.empty_append]; exact hm⟩)
          · exact .inl (key b o hb e)
        · by_cases hb : b ∈ cs.map (·.2)
          · obtain ⟨p, hp, ep⟩ := List.mem_map.mp hb
            obtain ⟨more, hm⟩ := grown p hp
            rw [← ep]
            exact ⟨_, hm⟩
          · exact ⟨o, key b o hb e⟩
  cases hk : K.lookup a with
  | some o =>
    have e := KX a o hk
    rw [ha] at e
    cases e
    refine core (fun b => if b ∈ cs.map (·.2) then some (.tbl #[]) else none) (fun p hp => if_pos (memT p hp)) (fun b => ?_) (.inr ⟨_, vs.toArray, _, hk, rfl, rfl, rfl, by rw [List.size_toArray, lenV]; exact hl, by simpa using rv⟩) (fun b u z => ?_) (fun b z => ?_) fun z => absurd (show (if a ∈ cs.map (·.2) then some (HO.tbl #[]) else none) = none from if_neg aT) z
    · by_cases hb : b ∈ cs.map (·.2)
      · exact .inr (.inl hb)
      · exact .inl (if_neg hb)
    · by_cases hb : b ∈ cs.map (·.2)
      · have z' := (if_pos hb).symm.trans z
        cases z'
        exact isT b hb
      · have z' := (if_neg hb).symm.trans z
        cases z'
    · by_cases hb : b ∈ cs.map (·.2)
      · exact .inr hb
      · exact absurd (if_neg hb) z
  | none =>
    refine core (fun b => if b = a then some (.frz { cls := .type "list", data := .seq vs.toArray } (.lst (ns.map V.int))) else if b ∈ cs.map (·.2) then some (.tbl #[]) else none) (fun p hp => (if_neg (show ¬ p.2 = a from fun z => aT (by rw [← z]; exact memT p hp))).trans (if_pos (memT p hp))) (fun b => ?_)
      (.inl (.inr ⟨{ cls := .type "list", data := .seq vs.toArray }, if_pos rfl⟩)) (fun b u z => ?_) (fun b z => ?_) fun _ => hk
    · by_cases hb : b = a
      · exact .inr (.inr ⟨_, _, if_pos hb⟩)
      · by_cases hb2 : b ∈ cs.map (·.2)
        · exact .inr (.inl hb2)
        · exact .inl ((if_neg hb).trans (if_neg hb2))
    · by_cases hb : b = a
      · have z' := (if_pos hb).symm.trans z
        cases z'
        rw [hb]
        exact ⟨ha, by rw [List.length_map]; exact hl, vs, _, rv, ha⟩
      · have z1 := (if_neg hb).symm.trans z
        by_cases hb2 : b ∈ cs.map (·.2)
        · have z' := (if_pos hb2).symm.trans z1
          cases z'
          exact isT b hb2
        · have z' := (if_neg hb2).symm.trans z1
          cases z'
    · by_cases hb : b = a
      · exact .inl hb
      · by_cases hb2 : b ∈ cs.map (·.2)
        · exact .inr hb2
        · exact absurd ((if_neg hb).trans (if_neg hb2)) z
def LawAtG (l : PySem.W.OpenLaw) (w : World) (K : PySem.W.Frag) (CX : CXT) (k n : Nat) (x : Str) (mg : Str → Option Value) (fa : Addr) (h : Heap) : Prop :=
  ∃ (fd : FuncData) (cs : List (Addr × Addr)) (sp : Sp), (∀ p ∈ cs, h.get? p.2 = some { cls := .none, data := .fields #[] }) ∧ (∀ p ∈ cs, K.lookup p.2 = none) ∧ (∀ p ∈ cs, PySem.W.CodeHd h p.1 p.2) ∧ (∀ (s : Shared) (u : Value), BindsTo s fd ⟨[u], []⟩ [(x, u)]) ∧
    (∀ (H : Hp) (a : Addr) (ns : List Int), ns.length ≤ n → (∀ z ∈ ns, Builtin.Int.intBits z ≤ 1048576) → (∀ p ∈ cs, H p.2 = some (.tbl #[])) → SqL K H a (ns.map V.int) → sp [.ref a] H (fun v _ => v = .bl true) fun _ _ _ => False) ∧
    ∀ base : Heap, K.In base → base.Ns mainGlobals mg → (∀ p ∈ cs, TabB base mg p.1 p.2) → FnOkG l.prog w K mg base CX k fa fd [x] sp
theorem walk_ofG {l : PySem.W.OpenLaw} {n k : Nat} {q : Program} {loose : List Str} {XP : (Str → Option Value) → Heap → Prop} {YP : World → Heap → Prop} {d : DefRec} {CX : World → CXT} {x : Str}
    (hn : l.most = some n) (hn2 : n ≤ sizeLine) (hdf : d.params.defaults = []) (hr : Room k callerA)
    (F : ∀ (w : World) (mg : Str → Option Value) (fa : Addr) (h : Heap), YP w h → h.Ns mainGlobals mg → mg d.name = some (.ref fa) → ∃ K : PySem.W.Frag, K.In h ∧ LawAtG l w K (CX w) k n x mg fa h)
    (hCX : ∀ (w : World) (H : Hp) (s : Shared) (e : Value) (s' : Shared), CX w [] H s (fun _ _ _ => False) e s' → False) :
    PySem.W.WalkO q loose XP YP l.row.toRowW d [] (fun f vs => PySem.call f vs) := by
  refine Att.attach_callB hn hdf fun w s₀ s₁ mg mb fa o pm cd doc a vs ns G Y ho hd hcd hmg hobj hints hlen hbits hg => ?_
  obtain ⟨K, KX, fd, cs, sp, hT, nT, C, hb, hsp, hF⟩ := F w mg fa _ Y G.T.g hmg
  exact law_callG KX G.T.g G.T.b G.T.builtins G.T.nolimit hg hT nT C G.T.bmain hobj hints (Nat.le_trans hlen hn2) (roomG_caller hr) hF hb (fun H hH hS => hsp H a ns hlen hbits hH hS) fun H e s' => hCX w H s₁ e s'
end VL
end
section
set_option Elab.async false
set_option linter.all false
set_option maxRecDepth 100000
set_option maxHeartbeats 2000000
/-! VL25: defs that call themselves, own.remove(e), targets that write, comprehensions whose tests change the state. -/
namespace VL
open PySem PySem.Spec L2
open PyProof.Rows hiding St
section
variable {X : Cx} {C : Ctx} {W : WX}
/-- a body that is never come to -/
theorem qss_bad {ss : List Stmt} : QSs X C W ss (fun _ => .bad) := ⟨fun pins s σ H D I ⟨_, _, _, _, q⟩ => q.elim⟩
/-! ### own.remove(e), ints -/
def sRem (i : Nat) (m : Rho → Res D) : Rho → SRes := fun ρ => match ownAt ρ i with
  | some _ => (match m ρ with
    | .ok d ρ1 => (match ownAt ρ1 i, intO d with
      | some ds, some k => (match intsO ds with
        | some ns => if decide (k ∈ ns) then .nx (ρ1.set i (.o (ds.eraseIdx (ns.idxOf k)))) else .bad
        | none => .bad)
      | _, _ => .bad)
    | .ex c p ρ' => .ex c p ρ'
    | .bad => .bad)
  | none => .bad
variable {e : Expr} {m : Rho → Res D} {pos apos cpos p1 : Pos}
theorem qs_rem {i : Nat} {x : Str} (hN : X.N[i]? = some x) (hv : Vis X.env.scope x) (he : VE X C W e m) (hd : (x == ("__debug__" : Str)) = false := by decide) (hcd : (x == ("__classdict__" : Str)) = false := by decide)
    (hbase : attributeBase (.Name x p1) "remove" X.env (eval (.Name x p1) X.env) = eval (.Name x p1) X.env := by rfl)
    (hfew : ((backTo cpos (starEach (e :: []) X.env)).all (fun x => !x.1) && (backToKw cpos (keywordEach [] X.env)).all (fun x => x.1.isSome)
      && decide ((e :: []).length + ([] : List Keyword).length + (if ([] : List Keyword).isEmpty then 0 else 1) < 30)) = true := by rfl)
    (hline : (apos.endLine == cpos.line) = true := by rfl) (hs : starEach (e :: []) X.env = (false, eval e X.env) :: starEach [] X.env := by rfl) (hplain : (backTo cpos (starEach [] X.env)).any (·.1) = false := by rfl)
    (hsw : swapsWith (.Call (.Attribute (.Name x p1) "remove" apos) [e] [] cpos) none pos.line X.env = pure false := by rfl) :
    QS X C W (.Expr (.Call (.Attribute (.Name x p1) "remove" apos) [e] [] cpos) pos) (sRem i m) :=
  wkS (ps_expr (pe_bm PySem.F.plainAttrs_list PySem.F.slot_list_remove PySem.F.type_list_remove mt_remove (pe_var (i := i) hN hv hd hcd) (pa_cons he pa_nil hs) hbase hfew hline hs hplain) hsw) fun Dn σ H ⟨A, α, ρ, sr, q⟩ => by
    unfold sRem at q
    cases h1 : ownAt ρ i with
    | none => simp only [h1] at q; exact q.elim
    | some ds0 =>
      simp only [h1] at q
      have h1 := ownAt_some h1
      obtain ⟨l, vs, al, sl, hl, hr⟩ := sr.slot h1
      refine ⟨.ref l, sl, .inl ⟨rfl, vs, SqL.of hl⟩, A, α, ρ, sr, ?_⟩
      cases h2 : m ρ with
      | bad => simp only [h2] at q; exact q.elim
      | ex c p ρ' => simp only [h2] at q; exact fun α' o H' s t x => q α' σ o H' s t x
      | ok d ρ1 =>
        simp only [h2] at q
        intro α1 v H1 s1 t1 r1
        cases h3 : ownAt ρ1 i with
        | none => simp only [h3] at q; exact q.elim
        | some ds =>
          cases h4 : intO d with
          | none => simp only [h3, h4] at q; exact q.elim
          | some k =>
            simp only [h3, h4] at q
            cases h5 : intsO ds with
            | none => simp only [h5] at q; exact q.elim
            | some ns =>
              simp only [h5] at q
              by_cases hc : k ∈ ns
              · rw [if_pos (decide_eq_true hc)] at q
                have h3 := ownAt_some h3
                obtain ⟨l1, vs1, al1, sl1, hl1, hr1⟩ := s1.slot h3
                obtain rfl := sr.same s1 h1 h3 al al1
                have e4 := intO_some h4
                subst e4
                cases r1
                have e5 := intsO_some h5
                subst e5
                have hv := hr1.intsV
                subst hv
                obtain ⟨s2, t2⟩ := s1.write h3 al1 hl1 (hr1.eraseIdx (ns.idxOf k))
                refine ⟨l, ns, k, ns.idxOf k, rfl, rfl, hl1, by rw [List.getElem?_eq_getElem (List.idxOf_lt_length_iff.mpr hc), List.getElem_idxOf], fun j hj z => ?_, ?_⟩
                · have hjl := List.getElem?_eq_some_iff.mp z
                  obtain ⟨hjl, z2⟩ := hjl
                  have := List.not_of_lt_findIdx (p := (· == k)) (xs := ns) (i := j) hj
                  simp [z2] at this
                · have q2 := q α1 σ _ s2 (t1.trans t2)
                  rw [erase_mapI] at q2
                  exact q2
              · rw [if_neg (by simp [hc])] at q
                exact q.elim
/-! ### targets that write -/
def rdH (K : PySem.W.Frag) (C : Ctx) (g : D → Rho → Option Rho) : TG := fun v σ H Q => ∃ A α ρ d ρ', SR K C A α ρ σ H ∧ Rep K C (Fb A α) H d v ∧ g d ρ = some ρ' ∧
  ∀ α' σ' H', SR K C A α' ρ' σ' H' → Stp C α H α' H' → Q σ' H'
def rdHs (K : PySem.W.Frag) (C : Ctx) (g : List D → Rho → Option Rho) : TGs := fun v σ H Q => ∃ A α ρ d ρ', SR K C A α ρ σ H ∧ RepL K C (Fb A α) H d v ∧ g d ρ = some ρ' ∧
  ∀ α' σ' H', SR K C A α' ρ' σ' H' → Stp C α H α' H' → Q σ' H'
abbrev QH (X : Cx) (C : Ctx) (tg : Expr) (g : D → Rho → Option Rho) : Prop := PG X tg (rdH X.K C g)
abbrev QHs (X : Cx) (C : Ctx) (tg : List Expr) (g : List D → Rho → Option Rho) : Prop := PGs X tg (rdHs X.K C g)
variable {tg a : Expr} {es : List Expr} {vs : List Nat} {g : D → Rho → Option Rho} {gs : List D → Rho → Option Rho} {fa : Rho → Option D}
theorem qh_g (h : QG X C vs tg g) : QH X C tg g := ⟨fun pins s σ H v u Q I r ⟨A, α, ρ, d, ρ', sr, rp, e, q⟩ => h.run pins s σ H v u Q I r ⟨A, α, ρ, d, ρ', sr, rp, e, fun σ' s' _ _ => q α σ' H s' Stp.refl⟩⟩
theorem qhs_nil : QHs X C [] gN := by
  refine ⟨fun pins s σ H v u Q I r q => pgs_nil.run pins s σ H v u Q I r ?_⟩
  obtain ⟨A, α, ρ, d, ρ', sr, rp, e, q⟩ := q
  cases rp with
  | nil =>
    cases e
    exact ⟨rfl, q α σ H sr Stp.refl⟩
  | cons _ _ => cases e
theorem qhs_cons {e : Expr} (h1 : QH X C e g) (h2 : QHs X C es gs) (hs : (assignEach (e :: es) X.env).map (·.2) = assign e X.env :: (assignEach es X.env).map (·.2) := by rfl) : QHs X C (e :: es) (gC g gs) := by
  refine ⟨fun pins s σ H v u Q I r q => (pgs_cons h1 h2 hs).run pins s σ H v u Q I r ?_⟩
  obtain ⟨A, α, ρ, d, ρ', sr, rp, e, q⟩ := q
  cases rp with
  | nil => cases e
  | cons r1 r2 =>
    obtain ⟨ρ1, e1, e2⟩ := bind_some e
    refine ⟨_, _, rfl, A, α, ρ, _, ρ1, sr, r1, e1, fun α1 σ1 H1 s1 t1 => ⟨A, α1, ρ1, _, ρ', s1, r2.mv t1.mv, e2, fun α2 σ2 H2 s2 t2 => q α2 σ2 H2 s2 (t1.trans t2)⟩⟩
theorem qh_tup {k n : Nat} (hc : X.calm = true) (h : QHs X C es gs) (hl : ∀ ds ρ ρ', gs ds ρ = some ρ' → ds.length = n)
    (hn : (assignEach es X.env).length = n := by rfl) (hst : (assignEach es X.env).findIdx? (·.1) = none := by rfl) : QH X C (.Tuple es k pos) (gT gs) := by
  refine ⟨fun pins s σ H v u Q I r q => (pg_tup hc h hn hst).run pins s σ H v u Q I r ?_⟩
  obtain ⟨A, α, ρ, d, ρ', sr, rp, e, q⟩ := q
  cases d <;> first | cases e | skip
  obtain ⟨a, ws, rfl, l, p⟩ := rp.tupI
  exact ⟨a, ws, rfl, l, by rw [← p.length]; exact hl _ _ _ e, A, α, ρ, _, ρ', sr, p, e, q⟩
/-- own[e] -/
def gIx (i : Nat) (fa : Rho → Option D) : D → Rho → Option Rho := fun d ρ => match ownAt ρ i, (fa ρ).bind intO with
  | some ds, some k => (ixN ds.length k).map fun j => ρ.set i (.o (ds.set j d))
  | _, _ => none
theorem qh_ix {i : Nat} {x : Str} {p2 : Pos} {ix : Expr} (hN : X.N[i]? = some x) (hv : Vis X.env.scope x) (hk : QE X C ix fa) (hd : (x == ("__debug__" : Str)) = false := by decide) (hcd : (x == ("__classdict__" : Str)) = false := by decide)
    (ha : ∀ v, assign (.Subscript (.Name x p1) ix p2) X.env v = (do
      let ov ← holding [v] (eval (.Name x p1) X.env)
      let iv ← holding [v, ov] (eval ix X.env)
      standAt p2
      holding [v, ov, iv] (setItem ov iv v)
      release [v, ov, iv] []) := by intro _; rfl) : QH X C (.Subscript (.Name x p1) ix p2) (gIx i fa) := by
  refine ⟨fun pins s σ H v u Q I r q => (pg_sub (pe_var (i := i) hN hv hd hcd) hk set_list ha).run pins s σ H v u Q I r ?_⟩
  obtain ⟨A, α, ρ, d, ρ', sr, rp, e, q⟩ := q
  unfold gIx at e
  cases h1 : ownAt ρ i with
  | none => simp only [h1] at e; cases e
  | some ds =>
    cases h2 : (fa ρ).bind intO with
    | none => simp only [h1, h2] at e; cases e
    | some k =>
      simp only [h1, h2] at e
      cases h6 : ixN ds.length k with
      | none => rw [h6] at e; cases e
      | some j =>
        rw [h6] at e
        cases e
        obtain ⟨y, e1, e2⟩ := bind_some h2
        have e2 := intO_some e2
        subst e2
        have h1 := ownAt_some h1
        obtain ⟨l1, vs1, al1, sl1, hl1, hr1⟩ := sr.slot h1
        refine ⟨.ref l1, sl1, A, α, ρ, _, sr, e1, fun w H2 g2 r2 => ?_⟩
        cases r2
        have hl2 := g2.kp.any hl1 (NT.lst _)
        obtain ⟨s3, t3⟩ := (sr.grow g2).write h1 al1 hl2 ((hr1.mv g2.mv).set (rp.mv g2.mv) j)
        exact ⟨l1, vs1, k, j, rfl, rfl, hl2, by rw [← hr1.length]; exact h6, q α σ _ s3 ((Stp.of_gro g2).trans t3)⟩
/-- targets = e -/
theorem qs_asgH {e : Expr} (he : VE X C W e m) (hg : QH X C tg g) (hs : swapsWithSole [tg] e pos.line X.env = pure false := by rfl) (hw : swappedStores [tg] e X.env = pure none := by rfl)
    (h1 : (assignEach [tg] X.env).map (·.2) = [assign tg X.env] := by rfl) : QS X C W (.Assign [tg] e pos) (sAsg g m) := wkS (ps_asg he hg hs hw h1) fun Dn σ H ⟨A, α, ρ, sr, q⟩ => by
  refine ⟨A, α, ρ, sr, ?_⟩
  unfold sAsg at q
  cases hf : m ρ with
  | bad => rw [hf] at q; exact q.elim
  | ex c p ρ' => rw [hf] at q; exact fun α' o H' s t x => q α' σ o H' s t x
  | ok d ρ' =>
    rw [hf] at q
    cases hg2 : g d ρ' with
    | none => simp only [hg2] at q; exact q.elim
    | some ρ2 =>
      simp only [hg2] at q
      exact fun α' v H' s t r => ⟨A, α', ρ', d, ρ2, s, r, hg2, fun α2 σ' H2 s' t2 => q α2 σ' H2 s' (t.trans t2)⟩
end
end VL
end
section
set_option Elab.async false
set_option linter.all false
set_option maxRecDepth 100000
set_option maxHeartbeats 2000000
/-! VL26: comprehensions whose tests change the state. -/
namespace VL
open PySem PySem.Spec L2
open PyProof.Rows hiding St
def compT (vs : List Nat) (g : D → Rho → Option Rho) (t : Rho → Res Bool) (m : Rho → Res D) : List D → List D → Rho → Res (List D)
  | [], acc, ρ => .ok acc ρ
  | x :: xs, acc, ρ => match g x ρ with
    | none => .bad
    | some ρ1 => (match t ρ1 with
      | .ok true ρ2 => (match m ρ2 with
        | .ok d ρ3 => if cleanR ρ3 vs then compT vs g t m xs (acc ++ [d]) (wipeR ρ3 vs) else .bad
        | _ => .bad)
      | .ok false ρ2 => if cleanR ρ2 vs then compT vs g t m xs acc (wipeR ρ2 vs) else .bad
      | _ => .bad)
def vLcT (vs : List Nat) (mi : Rho → Res (List D)) (g : D → Rho → Option Rho) (t : Rho → Res Bool) (m : Rho → Res D) : Rho → Res (List D) := fun ρ =>
  bindR (mi ρ) fun xs ρ1 => if cleanR ρ1 vs && decide (xs.length ≤ 16777216) then compT vs g t m xs [] (wipeR ρ1 vs) else .bad
section
variable {K : PySem.W.Frag} {C : Ctx} {W : WX} {vs : List Nat} {mi : Rho → Res (List D)} {g : D → Rho → Option Rho} {t : Rho → Res Bool} {m : Rho → Res D}
theorem lcT {σ : L2.St} {H : Hp} {Q : VK} (h : rdVF K C W (vLcT vs mi g t m) σ H Q) : tLc (rdVI K C W mi) (rdG K C vs g) (rdVT K C W0 t) (rdV K C W0 m) vs σ H Q := by
  obtain ⟨A, α, ρ, sr, q⟩ := h
  refine ⟨A, α, ρ, sr, ?_⟩
  unfold vLcT at q
  cases h1 : mi ρ with
  | bad => rw [h1] at q; exact q.elim
  | ex c p ρ' => rw [h1] at q; exact q
  | ok xs ρ1 =>
    rw [h1] at q
    simp only [bindR] at q
    by_cases hcl : (cleanR ρ1 vs && decide (xs.length ≤ 16777216)) = true
    · rw [if_pos hcl] at q
      rw [Bool.and_eq_true, decide_eq_true_eq] at hcl
      obtain ⟨hcl, hln⟩ := hcl
      intro α1 J H1 s1 t1 itr Dn hn
      have q := PostF.step t1 q
      have g0 : Gro C H1 (upd H1 Dn (.lst [])) := Gro.new hn
      have s0 : SR K C (Ad A Dn) α1 ρ1 σ (upd H1 Dn (.lst [])) := (s1.addA hn g0 upd_same (NT.lst _)).1
      refine ⟨fun i m' H2 => m' = xs.length - i ∧ i ≤ xs.length ∧ ∃ α2 ρ2 acc ws, SR K C (Ad A Dn) α2 ρ2 (L2.wipe σ vs) H2 ∧ (∃ ρ0, ρ2 = wipeR ρ0 vs) ∧ Stp C α1 H1 α2 H2 ∧ H2 Dn = some (.lst ws) ∧ RepL K C (Fb (Ad A Dn) α2) H2 acc ws ∧ acc.length ≤ i ∧
          PostF K C W A α1 σ H1 Q (compT vs g t m (xs.drop i) acc ρ2),
        ⟨xs.length, by omega, Nat.zero_le _, α1, wipeR ρ1 vs, [], [], s0.wipe hcl, ⟨_, rfl⟩, Stp.of_gro g0, upd_same, .nil, Nat.le_refl _, by rw [List.drop_zero]; exact q⟩, fun i m' H2 hW => ?_⟩
      obtain ⟨rfl, hi, α2, ρ2, acc, ws, s2, ⟨ρ0, hρ⟩, t2, hD, hR, hal, q2⟩ := hW
      have mm : Mv (Fb A α1) (Fb (Ad A Dn) α2) H1 H2 := ⟨t2.mv.kp, fun b o e nt n z => by
        rcases z with (z | z) | z
        · exact n (.inl z)
        · rw [z, hn] at e; cases e
        · exact (t2.mv (A := A)).nf b o e nt n (.inr z)⟩
      obtain ⟨go, stop⟩ := itr _ _ mm
      by_cases hlt : i < xs.length
      · have ex : xs[i]? = some xs[i] := List.getElem?_eq_getElem hlt
        obtain ⟨hgo, hy⟩ := go i _ ex
        rw [drop_at ex] at q2
        unfold compT at q2
        refine .inr ⟨hgo, fun H' => ∃ m'', m'' < xs.length - i ∧ (m'' = xs.length - (i + 1) ∧ i + 1 ≤ xs.length ∧ ∃ α2 ρ2 acc ws, SR K C (Ad A Dn) α2 ρ2 (L2.wipe σ vs) H' ∧ (∃ ρ0, ρ2 = wipeR ρ0 vs) ∧ Stp C α1 H1 α2 H' ∧ H' Dn = some (.lst ws) ∧ RepL K C (Fb (Ad A Dn) α2) H' acc ws ∧ acc.length ≤ i + 1 ∧
          PostF K C W A α1 σ H1 Q (compT vs g t m (xs.drop (i + 1)) acc ρ2)), fun H' hN => hN, fun v H3 y => ?_⟩
        obtain ⟨g3, rx⟩ := hy v H3 y
        cases hg2 : g xs[i] ρ2 with
        | none => simp only [hg2] at q2; exact q2.elim
        | some ρ3 =>
          simp only [hg2] at q2
          refine ⟨_, α2, ρ2, _, ρ3, s2.grow g3, rx, hg2, fun σ' s4 k4 l4 => ⟨?_, ?_⟩⟩
          · refine wipe_ext (by rw [l4, wipe_length]) fun j hj => ?_
            rw [k4 j hj, wipe_out hj]
          have hw : L2.wipe σ' vs = L2.wipe σ vs := wipe_ext (by rw [l4, wipe_length]) fun j hj => by rw [k4 j hj, wipe_out hj]
          refine ⟨_, α2, ρ3, s4, ?_⟩
          cases ht2 : t ρ3 with
          | bad => simp only [ht2] at q2; exact q2.elim
          | ex c p ρ' => simp only [ht2] at q2; exact q2.elim
          | ok b ρ4 =>
            cases b with
            | false =>
              simp only [ht2] at q2
              by_cases hcl5 : cleanR ρ4 vs = true
              · rw [if_pos hcl5] at q2
                intro α5 H5 s5 t5
                have hD5 : H5 Dn = some (.lst ws) := t5.kp _ _ (g3.kp.any hD (NT.lst _)) (.inl ⟨fun ⟨j, e⟩ => s4.na j Dn e (.inr rfl), NT.lst _⟩)
                have hR5 := (hR.mv g3.mv).mv t5.mv
                have t6 : Stp C α1 H1 α5 H5 := (t2.trans (Stp.of_gro g3)).trans t5
                have s6 : SR K C (Ad A Dn) α5 (wipeR ρ4 vs) (L2.wipe σ vs) H5 := by
                  rw [← hw]
                  exact s5.wipe hcl5
                exact (if_neg Bool.false_ne_true).mpr ⟨xs.length - (i + 1), by omega, rfl, hlt, α5, wipeR ρ4 vs, acc, ws, s6, ⟨_, rfl⟩, t6, hD5, hR5, by omega, q2⟩
              · rw [if_neg hcl5] at q2
                exact q2.elim
            | true =>
              simp only [ht2] at q2
              intro α4 H4 s4' t4
              have hD4 : H4 Dn = some (.lst ws) := t4.kp _ _ (g3.kp.any hD (NT.lst _)) (.inl ⟨fun ⟨j, e⟩ => s4.na j Dn e (.inr rfl), NT.lst _⟩)
              have hR4 := (hR.mv g3.mv).mv t4.mv
              refine (if_pos rfl).mpr ⟨_, α4, ρ4, s4', ?_⟩
              cases hm : m ρ4 with
              | bad => simp only [hm] at q2; exact q2.elim
              | ex c p ρ' => simp only [hm] at q2; exact q2.elim
              | ok d ρ5 =>
                simp only [hm] at q2
                by_cases hcl5 : cleanR ρ5 vs = true
                · rw [if_pos hcl5] at q2
                  intro α5 w H5 s5 t5 r5
                  have hD5 : H5 Dn = some (.lst ws) := t5.kp _ _ hD4 (.inl ⟨fun ⟨j, e⟩ => s4'.na j Dn e (.inr rfl), NT.lst _⟩)
                  have hR5 := hR4.mv t5.mv
                  have t6 : Stp C α1 H1 α5 H5 := ((t2.trans (Stp.of_gro g3)).trans t4).trans t5
                  have mu : Mv (Fb (Ad A Dn) α5) (Fb (Ad A Dn) α5) H5 (upd H5 Dn (.lst (ws ++ [w]))) := mv_upd hD5 (.inl (.inr rfl))
                  have s6 : SR K C (Ad A Dn) α5 (wipeR ρ5 vs) (L2.wipe σ vs) H5 := by
                    rw [← hw]
                    exact s5.wipe hcl5
                  refine ⟨ws, hD5, by rw [← hR5.length, ← sl16]; omega, xs.length - (i + 1), by omega, rfl, hlt, α5, wipeR ρ5 vs, acc ++ [d], ws ++ [w], s6.updA hD5 (.inr rfl), ⟨_, rfl⟩, stp_updN t6 hn hD5, upd_same, (hR5.append (.cons r5 .nil)).mv mu, ?_, q2⟩
                  rw [List.length_append]
                  simp only [List.length_cons, List.length_nil]
                  omega
                · rw [if_neg hcl5] at q2
                  exact q2.elim
      · have hd : xs.drop i = [] := List.drop_eq_nil_of_le (by omega)
        rw [hd] at q2
        subst hρ
        exact .inl ⟨stop i (by omega), q2 α2 Dn ws H2 s2.unwipe t2 hn hD hR⟩
    · rw [if_neg hcl] at q
      exact q.elim
end
section
variable {X : Cx} {C : Ctx} {W : WX} {mi : Rho → Res (List D)} {g : D → Rho → Option Rho} {t : Rho → Res Bool} {m : Rho → Res D}
structure VTs (X : Cx) (C : Ctx) (ifs : List Expr) (t : Rho → Res Bool) : Prop where
  pt : PTs X ifs (rdVT X.K C W0 t)
theorem vts_one {c : Expr} {t : Rho → Res Bool} (h : VT X C W0 c t) : VTs X C [c] t := ⟨pts_one h⟩
theorem vf_lcT {elt tg iter : Expr} {ifs : List Expr} {scope : Scope} (own : List (Str × Nat)) {pos : Pos} (hc : X.calm = true) (hN : X.N.Nodup) (hi : VI X C W tg iter mi) (ok : BlkOk X.N X.env.scope scope own)
    (hg : ∀ (s : Shared) (H : Hp) (Ca : Addr) (cl : List (Str × Addr)) (fp : List Addr), QG (X.blk s H scope (compEnvC scope cl Ca X.env) fp) C (own.map (·.2)) tg g)
    (ht : ∀ (s : Shared) (H : Hp) (Ca : Addr) (cl : List (Str × Addr)) (fp : List Addr), VTs (X.blk s H scope (compEnvC scope cl Ca X.env) fp) C ifs t)
    (he : ∀ (s : Shared) (H : Hp) (Ca : Addr) (cl : List (Str × Addr)) (fp : List Addr), VE (X.blk s H scope (compEnvC scope cl Ca X.env) fp) C W0 elt m) (hs : ∀ x, foldedSetIterable iter X.env x = pure x := by intro _; rfl) :
    VF X C W (.ListComp elt [⟨tg, iter, ifs, 0⟩] scope pos) (vLcT (own.map (·.2)) mi g t m) :=
  wkE (pe_lc hc hN hi ok hg (fun s H Ca cl fp => (ht s H Ca cl fp).pt) he hs) fun σ H Q h => lcT h
/-- name = [..] on one line -/
theorem qs_setLcT {i : Nat} {y : Str} {py : Pos} {elt tg iter : Expr} {ifs : List Expr} {scope : Scope} (own : List (Str × Nat)) {pos spos : Pos} (hc : X.calm = true) (hN : X.N.Nodup) (hy : X.N[i]? = some y) (hyl : X.env.scope.names.lookup y = some .local)
    (hsw : swapsWith (.ListComp elt [⟨tg, iter, ifs, 0⟩] scope pos) (some (.Name y py)) spos.line X.env = pure true) (hi : VI X C W tg iter mi) (ok : BlkOk X.N X.env.scope scope own)
    (hg : ∀ (s : Shared) (H : Hp) (Ca : Addr) (cl : List (Str × Addr)) (fp : List Addr), QG (X.blk s H scope (compEnvC scope cl Ca X.env) fp) C (own.map (·.2)) tg g)
    (ht : ∀ (s : Shared) (H : Hp) (Ca : Addr) (cl : List (Str × Addr)) (fp : List Addr), VTs (X.blk s H scope (compEnvC scope cl Ca X.env) fp) C ifs t)
    (he : ∀ (s : Shared) (H : Hp) (Ca : Addr) (cl : List (Str × Addr)) (fp : List Addr), VE (X.blk s H scope (compEnvC scope cl Ca X.env) fp) C W0 elt m) (hs : ∀ x, foldedSetIterable iter X.env x = pure x := by intro _; rfl) :
    QS X C W (.Assign [.Name y py] (.ListComp elt [⟨tg, iter, ifs, 0⟩] scope pos) spos) (sSet i (kF (vLcT (own.map (·.2)) mi g t m))) :=
  wkS (ps_setLc hc hN hy hyl hsw hi ok hg (fun s H Ca cl fp => (ht s H Ca cl fp).pt) he hs) fun Dn σ H ⟨A, α, ρ, sr, q⟩ => lcT ⟨A, α, ρ, sr, postK_F (set_post sr q)⟩
end
end VL
end
section
set_option Elab.async false
set_option linter.all false
set_option maxRecDepth 100000
set_option maxHeartbeats 2000000
/-! ZN: zip of any number of tuples, at the library's level; the tuples handed out may live on. -/
namespace ZN
open PySem RZ
open PySem.Sem (wp)
abbrev ZObj (f0 : Value) (f1 : Bool) (TI TO : Addr) : Obj := { cls := .type "zip", dict := none, data := .fields #[f0, .bool f1, .bool false, .ref TI, .ref TO], slots := #[] }
abbrev TObj (vs : List Value) : Obj := { cls := .type "tuple", data := .seq vs.toArray }
structure ZAp (z TI TO : Addr) (its ls : List Addr) : Prop where
  TIz : TI ≠ z
  TOz : TO ≠ z
  TITO : TI ≠ TO
  it : ∀ i ∈ its, i ≠ z ∧ i ≠ TI ∧ i ≠ TO
  nd : its.Nodup
  l : ∀ l ∈ ls, l ≠ z ∧ l ≠ TO ∧ l ∉ its
structure ZSt (z TI TO : Addr) (its ls : List Addr) (k : Nat) (h : Heap) : Prop where
  z : ∃ (f0 : Value) (f1 : Bool), (f0 = .none ∨ ∃ r : Nat, f0 = rawInt r) ∧ h.get? z = some (ZObj f0 f1 TI TO)
  ti : h.get? TI = some (TObj (its.map Value.ref))
  to : ∃ kept : List Value, kept.length = its.length ∧ h.get? TO = some (TObj kept)
  len : its.length = ls.length
  at_ : ∀ (j : Nat) (i l : Addr), its[j]? = some i → ls[j]? = some l → h.IsTupleIter i l k
section
variable {prog : Program} {w : World} {A : Around} {E : Value → Shared → Prop} {s : Shared}
theorem wpAny_alive {a : Addr} {Q : Option Obj → Shared → Prop} (h : Q (s.heap.get? a) s) : wpAny (model prog w) A (loadIfAlive a) Q E s := fun Γ p hΓ => by
  show wp _ _ (Sem.loadIfAlive _ Sem.pure) _ _ p s
  rw [Sem.wp_loadIfAlive]
  exact h
theorem free_ok {z TI TO : Addr} {f0 : Value} {f1 : Bool} {Q : Bool → Shared → Prop} (hz : s.heap.get? z = some (ZObj f0 f1 TI TO)) (h0 : f0 = .none ∨ ∃ r : Nat, f0 = rawInt r)
    (hQ : ∀ b h' f1', h'.get? z = some (ZObj f0 f1' TI TO) → Heap.SameBut z s.heap h' → Q b { s with heap := h' }) :
    wpAny (model prog w) A (Builtin.SmallTypes.ownedTupleIsFree (.ref z)) Q E s := by
  unfold Builtin.SmallTypes.ownedTupleIsFree
  refine wpAny_bind (wpAny_field hz rfl (x := f0) rfl ?_)
  have base : Q true s := hQ true s.heap f1 hz ⟨rfl, fun _ _ => rfl⟩
  rcases h0 with rfl | ⟨r, rfl⟩
  · exact wpAny_pure base
  · show wpAny _ _ (loadIfAlive _ >>= _) _ _ s
    refine wpAny_bind (wpAny_alive ?_)
    cases s.heap.get? (r : Int).toNat with
    | none => exact wpAny_pure base
    | some o =>
      show wpAny _ _ (field (.ref z) 1 >>= _) _ _ s
      refine wpAny_bind (wpAny_field hz rfl (x := .bool f1) rfl ?_)
      cases f1 with
      | true => exact wpAny_bind (wpAny_pure (wpAny_pure (hQ false s.heap true hz ⟨rfl, fun _ _ => rfl⟩)))
      | false =>
        show wpAny _ _ (setField (.ref z) 1 (.bool true) >>= _) _ _ s
        refine wpAny_bind (wpAny_setField_rec hz (by simp) fun h₁ hz₁ hs₁ => ?_)
        exact wpAny_pure (hQ false h₁ true hz₁ hs₁)
theorem forIn_arr {M : Model} {α β : Type} (f : α → β → Sem (ForInStep β)) (I : List α → β → Shared → Prop) (Q : β → Shared → Prop)
    (turn : ∀ x rest b s, I (x :: rest) b s → wpAny M A (f x b) (fun r s' => match r with | .yield b' => I rest b' s' | .done b' => Q b' s') E s)
    (fin : ∀ b s, I [] b s → Q b s) (xs : Array α) (b : β) (h : I xs.toList b s) : wpAny M A (forIn xs b f) Q E s := by
  rw [← Array.forIn_toList]
  exact wpAny_forIn_list f I Q turn fin _ b h
theorem set_take_drop {α : Type} {l m : List α} {j : Nat} {x : α} (hm : m[j]? = some x) (hl : l.length = m.length) : (m.take j ++ l.drop j).set j x = m.take (j + 1) ++ l.drop (j + 1) := by
  have hj : j < m.length := (List.getElem?_eq_some_iff.mp hm).1
  apply List.ext_getElem?
  intro i
  rw [List.getElem?_set]
  have e1 : (m.take j).length = j := by rw [List.length_take]; omega
  have e2 : (m.take (j + 1)).length = j + 1 := by rw [List.length_take]; omega
  have e3 : (m.take j ++ l.drop j).length = m.length := by rw [List.length_append, e1, List.length_drop]; omega
  by_cases h : j = i
  · subst h
    rw [if_pos rfl, if_pos (by rw [e3]; exact hj), List.getElem?_append_left (by rw [e2]; omega), List.getElem?_take, if_pos (by omega)]
    exact hm.symm
  · rw [if_neg h]
    by_cases hlt : i < j
    · rw [List.getElem?_append_left (by rw [e1]; exact hlt), List.getElem?_append_left (by rw [e2]; omega), List.getElem?_take, List.getElem?_take, if_pos hlt, if_pos (by omega)]
    · rw [List.getElem?_append_right (by rw [e1]; omega), List.getElem?_append_right (by rw [e2]; omega), List.getElem?_drop, List.getElem?_drop, e1, e2]
      congr 1
      omega
/-- what stands within the loop behind j iterators -/
structure Mid (z TI TO : Addr) (its ls : List Addr) (k j : Nat) (h0 h : Heap) : Prop where
  sz : h.objs.size = h0.objs.size
  ti : h.get? TI = some (TObj (its.map Value.ref))
  old : ∀ (m : Nat) (i l : Addr), m < j → its[m]? = some i → ls[m]? = some l → h.IsTupleIter i l (k + 1)
  new : ∀ (m : Nat) (i l : Addr), j ≤ m → its[m]? = some i → ls[m]? = some l → h.IsTupleIter i l k
  kp : ∀ c o, c ≠ z → c ≠ TO → c ∉ its → h0.get? c = some o → h.get? c = some o
theorem Mid.step {z TI TO : Addr} {its ls : List Addr} {k j : Nat} {h0 h h' : Heap} {i l : Addr} (D : ZAp z TI TO its ls) (M : Mid z TI TO its ls k j h0 h) (hi : its[j]? = some i) (hl : ls[j]? = some l)
    (it : h'.IsTupleIter i l (k + 1)) (sb : Heap.SameBut i h h') : Mid z TI TO its ls k (j + 1) h0 h' := by
  have hmem : i ∈ its := List.mem_of_getElem? hi
  have ne : ∀ m i', its[m]? = some i' → m ≠ j → i' ≠ i := fun m i' e n z => by
    subst z
    obtain ⟨a1, a2⟩ := List.getElem?_eq_some_iff.mp e
    exact n ((List.getElem?_inj a1 D.nd).mp (e.trans hi.symm))
  refine ⟨sb.1.trans M.sz, (sb.2 _ (fun z => (D.it i hmem).2.1 z.symm)).trans M.ti, fun m i' l' hm e1 e2 => ?_, fun m i' l' hm e1 e2 => ?_, fun c o c1 c2 c3 e => (sb.2 c (fun z => c3 (by rw [z]; exact hmem))).trans (M.kp c o c1 c2 c3 e)⟩
  · by_cases hmj : m = j
    · subst hmj
      rw [hi] at e1
      rw [hl] at e2
      cases e1
      cases e2
      exact it
    · exact (M.old m i' l' (by omega) e1 e2).extBut sb.extBut (ne m i' e1 hmj)
  · exact (M.new m i' l' (by omega) e1 e2).extBut sb.extBut (ne m i' e1 (by omega))
theorem Mid.other {z TI TO : Addr} {its ls : List Addr} {k j : Nat} {h0 h h' : Heap} {a : Addr} (D : ZAp z TI TO its ls) (M : Mid z TI TO its ls k j h0 h) (ha : a = z ∨ a = TO) (sb : Heap.SameBut a h h') : Mid z TI TO its ls k j h0 h' := by
  have ne : ∀ i ∈ its, i ≠ a := fun i hi e => by
    rcases ha with q | q
    · exact (D.it i hi).1 (e.trans q)
    · exact (D.it i hi).2.2 (e.trans q)
  refine ⟨sb.1.trans M.sz, (sb.2 _ (fun e => ?_)).trans M.ti, fun m i l hm e1 e2 => (M.old m i l hm e1 e2).extBut sb.extBut (ne i (List.mem_of_getElem? e1)), fun m i l hm e1 e2 => (M.new m i l hm e1 e2).extBut sb.extBut (ne i (List.mem_of_getElem? e1)), fun c o c1 c2 c3 e => (sb.2 c fun q => ?_).trans (M.kp c o c1 c2 c3 e)⟩
  · rcases ha with q | q
    · exact D.TIz (e.trans q)
    · exact D.TITO (e.trans q)
  · rcases ha with r | r
    · exact c1 (q.trans r)
    · exact c2 (q.trans r)
theorem zip_item {z TI TO : Addr} {its ls : List Addr} {k : Nat} {row : List Value} {Q : Value → Shared → Prop} (D : ZAp z TI TO its ls) (st : ZSt z TI TO its ls k s.heap) (h0 : its ≠ [])
    (hls : ∀ (j : Nat) (l : Addr) (v : Value), ls[j]? = some l → row[j]? = some v → ∃ xs : Array Value, s.heap.IsTuple l xs ∧ xs[k]? = some v) (hr : row.length = its.length) (hn : its.length ≤ 1000)
    (hQ : ∀ h', ZSt z TI TO its ls (k + 1) h' → h'.get? s.heap.objs.size = some (TObj row) → h'.objs.size = s.heap.objs.size + 1 → (∀ c o, c ≠ z → c ≠ TO → c ∉ its → s.heap.get? c = some o → h'.get? c = some o) → Q (.ref s.heap.objs.size) { s with heap := h' }) :
    wpAny (model prog w) A (Builtin.«zip.__next__» ⟨[.ref z], []⟩) (fun fin s' => ∃ v, fin = .done (.ret v) ∧ Q v s') E s := by
  obtain ⟨⟨f0, f1, hf0, hz⟩, hTI, ⟨kept, hk, hTO⟩, hlen, hat⟩ := st
  show wpAny _ _ (field (.ref z) 2 >>= _) _ _ _
  refine wpAny_bind (wpAny_field hz rfl (x := .bool false) rfl ?_)
  show wpAny _ _ (field (.ref z) 3 >>= _) _ _ _
  refine wpAny_bind (wpAny_field hz rfl (x := .ref TI) rfl ?_)
  refine wpAny_bind (wpAny_seqItems hTI rfl ?_)
  have hne : ((its.map Value.ref).toArray).isEmpty = false := by
    cases its with
    | nil => exact absurd rfl h0
    | cons a r => rfl
  simp only [hne, Bool.false_eq_true, if_false]
  refine wpAny_bind (free_ok hz hf0 fun b h₀ f1' hz₀ hs₀ => ?_)
  have M0 : Mid z TI TO its ls k 0 s.heap h₀ := ⟨hs₀.1, (hs₀.2 _ D.TIz).trans hTI, fun m i l hm => absurd hm (Nat.not_lt_zero _), fun m i l _ e1 e2 => (hat m i l e1 e2).extBut hs₀.extBut (D.it i (List.mem_of_getElem? e1)).1, fun c o c1 _ _ e => (hs₀.2 c c1).trans e⟩
  have hTO₀ : h₀.get? TO = some (TObj kept) := (hs₀.2 _ D.TOz).trans hTO
  have tup : ∀ {j l v h}, Mid z TI TO its ls k j s.heap h → ls[j]? = some l → row[j]? = some v → ∃ xs : Array Value, h.IsTuple l xs ∧ xs[k]? = some v := fun {j l v h} M e1 e2 => by
    obtain ⟨xs, ht, hx⟩ := hls j l v e1 e2
    obtain ⟨a1, a2, a3⟩ := D.l l (List.mem_of_getElem? e1)
    exact ⟨xs, ht.at fun o e => M.kp l o a1 a2 a3 e, hx⟩
  have lenM : (its.map Value.ref).length = its.length := List.length_map ..
  have zin : ∀ {h : Heap} {j : Nat}, Mid z TI TO its ls k j s.heap h → its.length ≤ j → ∀ (m : Nat) (i l : Addr), its[m]? = some i → ls[m]? = some l → h.IsTupleIter i l (k + 1) := fun M hj m i l e1 e2 =>
    M.old m i l (Nat.lt_of_lt_of_le (List.getElem?_eq_some_iff.mp e1).1 hj) e1 e2
  have at2 : ∀ {m : Nat}, m < its.length → ∃ i l v, its[m]? = some i ∧ ls[m]? = some l ∧ row[m]? = some v := fun {m} hm =>
    ⟨its[m], ls[m]'(by omega), row[m]'(by omega), List.getElem?_eq_getElem hm, List.getElem?_eq_getElem _, List.getElem?_eq_getElem _⟩
  cases b with
  | true =>
    simp only [if_true]
    refine wpAny_bind (wpAny_rule ?_)
    refine wpAny_bind (wpAny_field hz₀ rfl (x := .ref TO) rfl ?_)
    refine wpAny_bind (wpAny_setField_rec hz₀ (by simp) fun h₁ hz₁ hs₁ => ?_)
    replace hz₁ : h₁.get? z = some (ZObj .ellipsis f1' TI TO) := hz₁
    have M1 := M0.other D (.inl rfl) hs₁
    have hTO₁ : h₁.get? TO = some (TObj kept) := (hs₁.2 _ D.TOz).trans hTO₀
    refine wpAny_bind (wpAny_forIn_list _ (fun rest b s' => ∃ j h, rest = ((its.map Value.ref).zipIdx).drop j ∧ j ≤ its.length ∧ b = (none, ()) ∧ s' = { s with heap := h } ∧ Mid z TI TO its ls k j s.heap h ∧
      h.get? z = some (ZObj .ellipsis f1' TI TO) ∧ h.get? TO = some (TObj (row.take j ++ kept.drop j))) _ ?_ ?_ _ _ ⟨0, h₁, rfl, Nat.zero_le _, rfl, rfl, M1, hz₁, by simpa using hTO₁⟩)
    · rintro ⟨iv, m⟩ rest b s' ⟨j, h, e, hj, rfl, rfl, M, hzj, hTOj⟩
      have hlt : j < its.length := by
        rcases Nat.lt_or_ge j its.length with q | q
        · exact q
        · rw [List.drop_eq_nil_of_le (by simp; omega)] at e
          cases e
      obtain ⟨i, l, v, ei, el, ev⟩ := at2 hlt
      have e0 : ((its.map Value.ref).zipIdx)[j]? = some (.ref i, j) := by
        rw [List.getElem?_zipIdx, List.getElem?_map, ei]
        simp
      have e1 : ((its.map Value.ref).zipIdx).drop j = (.ref i, j) :: ((its.map Value.ref).zipIdx).drop (j + 1) := by
        obtain ⟨q1, q2⟩ := List.getElem?_eq_some_iff.mp e0
        rw [List.drop_eq_getElem_cons q1, q2]
      rw [e1] at e
      injection e with e2 e3
      injection e2 with e4 e5
      subst e4
      subst e5
      obtain ⟨xs, ht, hx⟩ := tup M el ev
      refine wpAny_bind (wpAny_onRaise ?_)
      show wpAny _ _ (Builtin.SmallTypes.nextOf (.ref i) >>= _) _ _ _
      refine wpAny_bind (nextOf_tuple_item (M.new m i l (Nat.le_refl _) ei el) ht hx fun h₂ hi₂ hs₂ => wpAny_pure ?_)
      have M2 := M.step D ei el hi₂ hs₂
      have hiT : i ≠ TO := (D.it i (List.mem_of_getElem? ei)).2.2
      have hiz : i ≠ z := (D.it i (List.mem_of_getElem? ei)).1
      have hTO₂ : h₂.get? TO = some (TObj (row.take m ++ kept.drop m)) := (hs₂.2 _ hiT.symm).trans hTOj
      have hz₂ : h₂.get? z = some (ZObj .ellipsis f1' TI TO) := (hs₂.2 _ hiz.symm).trans hzj
      refine wpAny_bind (wpAny_seqItems hTO₂ rfl ?_)
      have s1 : (row.take m ++ kept.drop m).toArray.size ≤ sizeLine := by
        simp only [List.size_toArray, List.length_append, List.length_take, List.length_drop]
        exact VL.line1000 (by omega)
      have s2 : ((row.take m ++ kept.drop m).toArray.setIfInBounds m v).size ≤ sizeLine + 1 := by
        rw [Array.size_setIfInBounds]
        omega
      refine wpAny_bind (wpAny_updateSeq hTO₂ rfl ?_ s1 s2)
      refine wpAny_bind (wpAny_letGo (wpAny_pure ?_))
      have sb3 : Heap.SameBut TO h₂ (h₂.update TO (Obj.mapSeq (·.setIfInBounds m v))) := Heap.SameBut.update ..
      refine ⟨m + 1, _, e3, hlt, rfl, rfl, M2.other D (.inr rfl) sb3, (sb3.2 _ D.TOz.symm).trans hz₂, ?_⟩
      rw [Heap.get?_update_self _ hTO₂ rfl]
      simp only [Obj.mapSeq, List.setIfInBounds_toArray]
      rw [set_take_drop ev (by rw [hk, hr])]
      have sz : ((row.take (m + 1) ++ kept.drop (m + 1)).toArray.size == (row.take m ++ kept.drop m).toArray.size) = true := by
        simp only [List.size_toArray, List.length_append, List.length_take, List.length_drop, beq_iff_eq]
        omega
      rw [if_pos sz]
    · rintro b s' ⟨j, h, e, hj, rfl, rfl, M, hzj, hTOj⟩
      have hj2 : its.length ≤ j := by
        have := congrArg List.length e
        simp at this
        omega
      have ej : j = its.length := by omega
      subst ej
      rw [List.take_of_length_le (by omega), List.drop_eq_nil_of_le (by omega), List.append_nil] at hTOj
      refine wpAny_bind (wpAny_seqItems hTOj rfl ?_)
      refine wpAny_bind (wpAny_newTuple ?_ (VL.line1000 (by first | (show row.length ≤ 1000; omega) | (simp; omega))))
      show wpAny _ _ (Builtin.SmallTypes.ownedTupleHandOut (.ref z) (.ref h.objs.size) >>= _) _ _ _
      refine wpAny_bind ?_
      unfold Builtin.SmallTypes.ownedTupleHandOut
      have hz₆ : (h.push (TObj row)).get? z = some (ZObj .ellipsis f1' TI TO) := Heap.get?_push_of_some _ hzj
      refine wpAny_bind (wpAny_setField_rec hz₆ (by simp) fun h₇ hz₇ hs₇ => ?_)
      replace hz₇ : h₇.get? z = some (ZObj (rawInt h.objs.size) f1' TI TO) := hz₇
      refine wpAny_setField_rec hz₇ (by simp) fun h₈ hz₈ hs₈ => ?_
      replace hz₈ : h₈.get? z = some (ZObj (rawInt h.objs.size) false TI TO) := hz₈
      refine wpAny_pure ⟨_, rfl, ?_⟩
      have up : ∀ c o, c ≠ z → h.get? c = some o → h₈.get? c = some o := fun c o c1 e => ((hs₈.2 _ c1).trans (hs₇.2 _ c1)).trans (Heap.get?_push_of_some _ e)
      have hzlt : z < h.objs.size := Heap.lt_size hzj
      have hT8 : h₈.get? h.objs.size = some (TObj row) := ((hs₈.2 _ (Nat.ne_of_gt hzlt)).trans (hs₇.2 _ (Nat.ne_of_gt hzlt))).trans (Heap.get?_push_size _ rfl)
      have hz8 : h₈.objs.size = h.objs.size + 1 := by rw [hs₈.1, hs₇.1, Heap.size_push]
      rw [M.sz] at hT8 hz8
      show Q (.ref h.objs.size) _
      rw [M.sz]
      refine hQ h₈ ⟨⟨_, _, .inr ⟨_, rfl⟩, hz₈⟩, up _ _ D.TIz M.ti, ⟨row, hr, up _ _ D.TOz hTOj⟩, hlen, fun m i l e1 e2 => (zin M (Nat.le_refl _) m i l e1 e2).at fun o e => up _ o (D.it i (List.mem_of_getElem? e1)).1 e⟩ hT8 hz8 fun c o c1 c2 c3 e => up c o c1 (M.kp c o c1 c2 c3 e)
  | false =>
    simp only [Bool.false_eq_true, if_false]
    refine wpAny_bind (forIn_arr _ (fun rest b s' => ∃ j h, rest = (its.map Value.ref).drop j ∧ j ≤ its.length ∧ b = (none, (row.take j).toArray) ∧ s' = { s with heap := h } ∧ Mid z TI TO its ls k j s.heap h ∧
      h.get? z = some (ZObj f0 f1' TI TO) ∧ h.get? TO = some (TObj kept)) _ ?_ ?_ _ _ ⟨0, h₀, rfl, Nat.zero_le _, rfl, rfl, M0, hz₀, hTO₀⟩)
    · rintro iv rest b s' ⟨j, h, e, hj, rfl, rfl, M, hzj, hTOj⟩
      have hlt : j < its.length := by
        rcases Nat.lt_or_ge j its.length with q | q
        · exact q
        · rw [List.drop_eq_nil_of_le (by simp; omega)] at e
          cases e
      obtain ⟨i, l, v, ei, el, ev⟩ := at2 hlt
      have e0 : (its.map Value.ref)[j]? = some (.ref i) := by
        rw [List.getElem?_map, ei]
        rfl
      have e1 : (its.map Value.ref).drop j = .ref i :: (its.map Value.ref).drop (j + 1) := by
        obtain ⟨q1, q2⟩ := List.getElem?_eq_some_iff.mp e0
        rw [List.drop_eq_getElem_cons q1, q2]
      rw [e1] at e
      injection e with e4 e3
      subst e4
      obtain ⟨xs, ht, hx⟩ := tup M el ev
      refine wpAny_bind (wpAny_holding ?_)
      show wpAny _ _ (Builtin.SmallTypes.nextOf (.ref i) >>= _) _ _ _
      refine wpAny_bind (nextOf_tuple_item (M.new j i l (Nat.le_refl _) ei el) ht hx fun h₂ hi₂ hs₂ => wpAny_pure ?_)
      have M2 := M.step D ei el hi₂ hs₂
      have hiT : i ≠ TO := (D.it i (List.mem_of_getElem? ei)).2.2
      have hiz : i ≠ z := (D.it i (List.mem_of_getElem? ei)).1
      refine wpAny_pure ⟨j + 1, h₂, e3, hlt, ?_, rfl, M2, (hs₂.2 _ hiz.symm).trans hzj, (hs₂.2 _ hiT.symm).trans hTOj⟩
      have : row.take (j + 1) = row.take j ++ [v] := by
        obtain ⟨q1, q2⟩ := List.getElem?_eq_some_iff.mp ev
        rw [List.take_succ_eq_append_getElem q1, q2]
      rw [this]
      simp
    · rintro b s' ⟨j, h, e, hj, rfl, rfl, M, hzj, hTOj⟩
      have hj2 : its.length ≤ j := by
        have := congrArg List.length e
        simp at this
        omega
      have ej : j = its.length := by omega
      subst ej
      have et : row.take its.length = row := List.take_of_length_le (by omega)
      rw [et]
      refine wpAny_bind (wpAny_newTuple ?_ (VL.line1000 (by first | (show row.length ≤ 1000; omega) | (simp; omega))))
      refine wpAny_pure ⟨_, rfl, ?_⟩
      show Q (.ref h.objs.size) _
      have up : ∀ c o, h.get? c = some o → (h.push (TObj row)).get? c = some o := fun c o e => Heap.get?_push_of_some _ e
      have hT8 : (h.push (TObj row)).get? h.objs.size = some (TObj row) := Heap.get?_push_size _ rfl
      have hz8 : (h.push (TObj row)).objs.size = h.objs.size + 1 := Heap.size_push ..
      rw [M.sz] at hT8 hz8
      rw [M.sz]
      refine hQ (h.push (TObj row)) ⟨⟨_, _, hf0, up _ _ hzj⟩, up _ _ M.ti, ⟨kept, hk, up _ _ hTOj⟩, hlen, fun m i l e1 e2 => (zin M (Nat.le_refl _) m i l e1 e2).at fun o e => up _ o e⟩ hT8 hz8 fun c o c1 c2 c3 e => up c o (M.kp c o c1 c2 c3 e)
theorem zip_end {z TI TO : Addr} {its ls : List Addr} {k : Nat} {Q : Fin → Shared → Prop} (hh : A.handled = none) (D : ZAp z TI TO its ls) (st : ZSt z TI TO its ls k s.heap) {l : Addr} (hl : ls[0]? = some l)
    {xs : Array Value} (ht : s.heap.IsTuple l xs) (hx : xs[k]? = none)
    (hE : ∀ h' e, (∀ c o, c ≠ z → c ≠ TO → c ∉ its → s.heap.get? c = some o → h'.get? c = some o) → (∃ o, h'.get? e = some o ∧ o.cls = .type "StopIteration") → E (.ref e) { s with heap := h' }) :
    wpAny (model prog w) A (Builtin.«zip.__next__» ⟨[.ref z], []⟩) Q E s := by
  obtain ⟨⟨f0, f1, hf0, hz⟩, hTI, ⟨kept, hk, hTO⟩, hlen, hat⟩ := st
  obtain ⟨i, r, hits⟩ : ∃ i r, its = i :: r := by
    cases its with
    | nil =>
      have := (List.getElem?_eq_some_iff.mp hl).1
      simp at hlen
      omega
    | cons i r => exact ⟨i, r, rfl⟩
  have hi : its[0]? = some i := by rw [hits]; rfl
  have him : i ∈ its := List.mem_of_getElem? hi
  obtain ⟨a1, a2, a3⟩ := D.l l (List.mem_of_getElem? hl)
  show wpAny _ _ (field (.ref z) 2 >>= _) _ _ _
  refine wpAny_bind (wpAny_field hz rfl (x := .bool false) rfl ?_)
  show wpAny _ _ (field (.ref z) 3 >>= _) _ _ _
  refine wpAny_bind (wpAny_field hz rfl (x := .ref TI) rfl ?_)
  refine wpAny_bind (wpAny_seqItems hTI rfl ?_)
  have hne : ((its.map Value.ref).toArray).isEmpty = false := by rw [hits]; rfl
  simp only [hne, Bool.false_eq_true, if_false]
  refine wpAny_bind (free_ok hz hf0 fun b h₀ f1' hz₀ hs₀ => ?_)
  have it0 : h₀.IsTupleIter i l k := (hat 0 i l hi hl).extBut hs₀.extBut (D.it i him).1
  have ht0 : h₀.IsTuple l xs := ht.at fun o e => (hs₀.2 _ a1).trans e
  cases b with
  | true =>
    simp only [if_true]
    refine wpAny_bind (wpAny_rule ?_)
    refine wpAny_bind (wpAny_field hz₀ rfl (x := .ref TO) rfl ?_)
    refine wpAny_bind (wpAny_setField_rec hz₀ (by simp) fun h₁ hz₁ hs₁ => ?_)
    replace hz₁ : h₁.get? z = some (ZObj .ellipsis f1' TI TO) := hz₁
    rw [hits, List.map_cons, List.zipIdx_cons, List.forIn_cons]
    refine wpAny_bind (wpAny_bind (wpAny_bind (wpAny_onRaise ?_)))
    show wpAny _ _ (Builtin.SmallTypes.nextOf (.ref i) >>= _) _ _ _
    refine wpAny_bind (nextOf_tuple_end hh (it0.extBut hs₁.extBut (D.it i him).1) (ht0.at fun o e => (hs₁.2 _ a1).trans e) hx fun h₂ e hs₂ he => ?_)
    obtain ⟨oe, hoe, hce⟩ := he
    have hz₂ : h₂.get? z = some (ZObj .ellipsis f1' TI TO) := hs₂ _ _ (D.it i him).1.symm hz₁
    have hez : e ≠ z := fun x => by subst x; rw [hz₂] at hoe; cases hoe; simp at hce
    refine wpAny_setField_rec hz₂ (by simp) fun h₃ _ hs₃ => hE h₃ e (fun c o c1 c2 c3 x => (hs₃.2 _ c1).trans (hs₂ _ _ (fun q => c3 (by rw [q]; exact him)) ((hs₁.2 _ c1).trans ((hs₀.2 _ c1).trans x)))) ⟨oe, (hs₃.2 _ hez).trans hoe, hce⟩
  | false =>
    simp only [Bool.false_eq_true, if_false]
    rw [hits, List.map_cons, ← Array.forIn_toList, List.forIn_cons]
    refine wpAny_bind (wpAny_bind (wpAny_bind (wpAny_holding ?_)))
    show wpAny _ _ (Builtin.SmallTypes.nextOf (.ref i) >>= _) _ _ _
    refine wpAny_bind (nextOf_tuple_end hh it0 ht0 hx fun h₂ e hs₂ he => hE h₂ e (fun c o c1 c2 c3 x => hs₂ _ _ (fun q => c3 (by rw [q]; exact him)) ((hs₀.2 _ c1).trans x)) he)
theorem next_item {z TI TO : Addr} {its ls : List Addr} {k : Nat} {row : List Value} {Q : Option Value → Shared → Prop} (D : ZAp z TI TO its ls) (st : ZSt z TI TO its ls k s.heap) (h0 : its ≠ [])
    (hls : ∀ (j : Nat) (l : Addr) (v : Value), ls[j]? = some l → row[j]? = some v → ∃ xs : Array Value, s.heap.IsTuple l xs ∧ xs[k]? = some v) (hr : row.length = its.length) (hn : its.length ≤ 1000)
    (hQ : ∀ h', ZSt z TI TO its ls (k + 1) h' → h'.get? s.heap.objs.size = some (TObj row) → h'.objs.size = s.heap.objs.size + 1 → (∀ c o, c ≠ z → c ≠ TO → c ∉ its → s.heap.get? c = some o → h'.get? c = some o) → Q (some (.ref s.heap.objs.size)) { s with heap := h' }) :
    wpAny (model prog w) A (pyNext (.ref z)) Q E s := by
  have hT : s.TypeIs (.ref z) "zip" := by
    obtain ⟨f0, f1, _, hz⟩ := st.z
    exact ⟨_, hz, rfl⟩
  unfold pyNext
  exact wpAny_bind (wpAny_attempt (wpAny_callSpecial?_slot (name := Str.ofString "__next__") hT F.slot_zip_next
    (wpAny_call_entry F.slot_zip_next hT F.entry_zip_next
      (zip_item D st h0 hls hr hn fun h' a1 a2 a3 a4 => wpAny_pure (hQ h' a1 a2 a3 a4)) (F.args_zip_next_1 _))))
theorem next_end {z TI TO : Addr} {its ls : List Addr} {k : Nat} {Q : Option Value → Shared → Prop} (hh : A.handled = none) (D : ZAp z TI TO its ls) (st : ZSt z TI TO its ls k s.heap) {l : Addr} (hl : ls[0]? = some l)
    {xs : Array Value} (ht : s.heap.IsTuple l xs) (hx : xs[k]? = none)
    (hQ : ∀ h', (∀ c o, c ≠ z → c ≠ TO → c ∉ its → s.heap.get? c = some o → h'.get? c = some o) → Q none { s with heap := h' }) : wpAny (model prog w) A (pyNext (.ref z)) Q E s := by
  have hT : s.TypeIs (.ref z) "zip" := by
    obtain ⟨f0, f1, _, hz⟩ := st.z
    exact ⟨_, hz, rfl⟩
  unfold pyNext
  refine wpAny_bind (wpAny_attempt (wpAny_callSpecial?_slot (name := Str.ofString "__next__") hT F.slot_zip_next
    (wpAny_call_entry F.slot_zip_next hT F.entry_zip_next (zip_end hh D st hl ht hx fun h' e hk he => ?_) (F.args_zip_next_1 _))))
  obtain ⟨o, ho, hc⟩ := he
  refine wpAny_bind (wpAny_isInstance (T := "StopIteration") (b := true) ⟨o, ho, hc⟩ isSubtype_stop ?_)
  exact wpAny_pure (hQ _ hk)
theorem iter_zip {z TI TO : Addr} {its ls : List Addr} {k : Nat} {Q : Value → Shared → Prop} (st : ZSt z TI TO its ls k s.heap) (h : Q (.ref z) s) : wpAny (model prog w) A (pyIter (.ref z)) Q E s := by
  have hT : s.TypeIs (.ref z) "zip" := by
    obtain ⟨f0, f1, _, hz⟩ := st.z
    exact ⟨_, hz, rfl⟩
  refine wpAny_pyIter_slot hT F.slot_zip_iter (wpAny_call_entry F.slot_zip_iter hT F.entry_zip_iter ?_ (F.args_zip_iter_1 _))
  show wpAny _ _ (ret (.ref z)) _ _ s
  exact wpAny_pure ⟨_, rfl, "zip", _, hT, F.slot_zip_next.lookup, h⟩
/-! ### zip(..) made -/
/-- the arguments that a zip may have here -/
def argsOkB (n : Nat) : Bool := decide (1 ≤ n) && decide (n ≤ 6)
theorem typeCall {us : List Value} (h : argsOkB us.length = true) : checkTypeCall "zip" ⟨us, []⟩ = pure () := by
  match us, h with
  | [_], _ => kernel_rfl
  | [_, _], _ => kernel_rfl
  | [_, _, _], _ => kernel_rfl
  | [_, _, _, _], _ => kernel_rfl
  | [_, _, _, _, _], _ => kernel_rfl
  | [_, _, _, _, _, _], _ => kernel_rfl
theorem newCall {us : List Value} (h : argsOkB us.length = true) : checkBuiltinCall "zip.__new__" ⟨.type "zip" :: us, []⟩ = pure () := by
  match us, h with
  | [_], _ => kernel_rfl
  | [_, _], _ => kernel_rfl
  | [_, _, _], _ => kernel_rfl
  | [_, _, _, _], _ => kernel_rfl
  | [_, _, _, _, _], _ => kernel_rfl
  | [_, _, _, _, _, _], _ => kernel_rfl
theorem argsInit {us : List Value} (h : argsOkB us.length = true) (o : Value) : argsOk "object.__init__" ⟨o :: us, []⟩ := by
  unfold argsOk; rw [signature?_of (id := "object.__init__") (n := ['_', '_', 't', 'i', 'n', 'i', '_', '_']) (o := ['t', 'c', 'e', 'j', 'b', 'o']) (by kernel_rfl) F.owner_object]
  match us, h with
  | [_], _ => kernel_rfl
  | [_, _], _ => kernel_rfl
  | [_, _, _], _ => kernel_rfl
  | [_, _, _, _], _ => kernel_rfl
  | [_, _, _, _, _], _ => kernel_rfl
  | [_, _, _, _, _, _], _ => kernel_rfl
theorem newClass_zip (us : List Value) : Builtin.SmallTypes.newClass "zip" ⟨.type "zip" :: us, []⟩ = pure (.type "zip", us) := by
  unfold Builtin.SmallTypes.newClass
  show (isType (.type "zip") >>= _) = _
  rw [show isType (.type "zip") = pure true from rfl]
  show (isSubtype (.type "zip") (.type "zip") >>= _) = _
  rw [sub_zip]
  rfl
/-- the iterators made -/
theorem iterAll_ok {ls : List Addr} {Q : List Value → Shared → Prop} (hls : ∀ l ∈ ls, ∃ xs, s.heap.IsTuple l xs)
    (hQ : ∀ (h' : Heap) (its : List Addr), its.length = ls.length → its.Nodup → (∀ i ∈ its, s.heap.objs.size ≤ i ∧ h'.objs.size > i) → (∀ (j : Nat) (i l : Addr), its[j]? = some i → ls[j]? = some l → h'.IsTupleIter i l 0) → s.heap.objs.size ≤ h'.objs.size →
      (∀ c o, s.heap.get? c = some o → h'.get? c = some o) → Q (its.map Value.ref) { s with heap := h' }) :
    wpAny (model prog w) A (Builtin.SmallTypes.iterAll (ls.map Value.ref)) Q E s := by
  unfold Builtin.SmallTypes.iterAll
  refine wpAny_bind (wpAny_forIn_list _ (fun rest b s' => ∃ j h, ∃ its : List Addr, rest = (ls.map Value.ref).drop j ∧ j ≤ ls.length ∧ its.length = j ∧ b = (its.map Value.ref).toArray ∧ s' = { s with heap := h } ∧ its.Nodup ∧
    (∀ i ∈ its, s.heap.objs.size ≤ i ∧ h.objs.size > i) ∧ (∀ (m : Nat) (i l : Addr), its[m]? = some i → ls[m]? = some l → h.IsTupleIter i l 0) ∧ s.heap.objs.size ≤ h.objs.size ∧ (∀ c o, s.heap.get? c = some o → h.get? c = some o)) _ ?_ ?_ _ _
    ⟨0, s.heap, [], rfl, Nat.zero_le _, rfl, rfl, rfl, List.nodup_nil, by simp, by simp, Nat.le_refl _, fun _ _ e => e⟩)
  · rintro v rest b s' ⟨j, h, its, e, hj, hlen, rfl, rfl, nd, bd, at_, sz, kp⟩
    have hlt : j < ls.length := by
      rcases Nat.lt_or_ge j ls.length with q | q
      · exact q
      · rw [List.drop_eq_nil_of_le (by simp; omega)] at e
        cases e
    have e0 : (ls.map Value.ref)[j]? = some (.ref ls[j]) := by
      rw [List.getElem?_map, List.getElem?_eq_getElem hlt]
      rfl
    have e1 : (ls.map Value.ref).drop j = .ref ls[j] :: (ls.map Value.ref).drop (j + 1) := by
      obtain ⟨q1, q2⟩ := List.getElem?_eq_some_iff.mp e0
      rw [List.drop_eq_getElem_cons q1, q2]
    rw [e1] at e
    injection e with e4 e3
    subst e4
    obtain ⟨xs, ht⟩ := hls _ (List.getElem_mem hlt)
    refine wpAny_bind (wpAny_holding (wpAny_pyIter_tuple (ht.at fun o e => kp _ o e) ?_))
    have hz : (h.push { cls := .type "tuple_iterator", data := .fields #[.ref ls[j], .int 0 0] }).objs.size = h.objs.size + 1 := Heap.size_push ..
    refine wpAny_pure ⟨j + 1, h.push { cls := .type "tuple_iterator", data := .fields #[.ref ls[j], .int 0 0] }, its ++ [h.objs.size], e3, hlt, by simp [hlen], by simp, rfl, ?_, ?_, ?_, ?_, fun c o e => Heap.get?_push_of_some _ (kp c o e)⟩
    · rw [List.nodup_append]
      refine ⟨nd, by simp, fun a ha b hb z => ?_⟩
      rw [List.mem_singleton.mp hb] at z
      have q3 := (bd a ha).2
      rw [z] at q3
      exact Nat.lt_irrefl _ q3
    · intro i hi
      rw [hz]
      rcases List.mem_append.mp hi with z | z
      · have := bd i z
        omega
      · rw [List.mem_singleton.mp z]
        omega
    · intro m i l e5 e6
      by_cases hm : m < its.length
      · rw [List.getElem?_append_left hm] at e5
        exact (at_ m i l e5 e6).at fun o e => Heap.get?_push_of_some _ e
      · rw [List.getElem?_append_right (by omega)] at e5
        have hm2 : m = its.length := by
          have := (List.getElem?_eq_some_iff.mp e5).1
          rw [List.length_singleton] at this
          omega
        subst hm2
        simp at e5
        subst e5
        rw [hlen, List.getElem?_eq_getElem hlt] at e6
        cases e6
        exact ⟨_, Heap.get?_push_size _ rfl, rfl, rfl⟩
    · rw [hz]
      omega
  · rintro b s' ⟨j, h, its, e, hj, hlen, rfl, rfl, nd, bd, at_, sz, kp⟩
    have ej : j = ls.length := by
      have := congrArg List.length e
      simp at this
      omega
    subst ej
    exact wpAny_pure (hQ h its hlen nd bd at_ sz kp)
theorem call_zipN {ls : List Addr} {Q : Value → Shared → Prop} (hn : argsOkB ls.length = true) (hls : ∀ l ∈ ls, ∃ xs, s.heap.IsTuple l xs)
    (hQ : ∀ (h' : Heap) (z TI TO : Addr) (its : List Addr), ZAp z TI TO its ls → ZSt z TI TO its ls 0 h' → its ≠ [] → (∀ c, c = z ∨ c = TI ∨ c = TO ∨ c ∈ its → s.heap.objs.size ≤ c) → s.heap.objs.size ≤ h'.objs.size → (∀ c o, s.heap.get? c = some o → h'.get? c = some o) → Q (.ref z) { s with heap := h' }) :
    wpAny (model prog w) A (call (.type "zip") (ls.map Value.ref)) Q E s := by
  have hn' : argsOkB (ls.map Value.ref).length = true := by rw [List.length_map]; exact hn
  have hn2 : 1 ≤ ls.length ∧ ls.length ≤ 6 := by
    unfold argsOkB at hn
    simpa using hn
  refine callType_codes (T := "zip") (Bi := Builtin.«object.__init__») (Q₁ := fun r s₁ => s₁.TypeIs r "zip" ∧ Q r s₁) F.called_zip (typeCall hn') F.entry_object_init ?_ ?_
  · refine codeAny_of_tree ?_
    show wpAny _ A.in1.in1 (do checkBuiltinCall "zip.__new__" ⟨.type "zip" :: ls.map Value.ref, []⟩; again (.builtin "zip.__new__" ⟨.type "zip" :: ls.map Value.ref, []⟩)) _ _ s
    refine wpAny_bind (wpAny_of_eq (newCall hn') (wpAny_pure ⟨plainId_quiet (by decide +kernel) _, codeAny_builtin F.entry_zip_new ?_⟩))
    rw [Around.under_plainId (by decide +kernel) _]
    unfold Builtin.«zip.__new__»
    refine wpAny_bind (wpAny_of_eq (newClass_zip _) ?_)
    simp only [List.length_nil, gt_iff_lt, Nat.not_lt_zero, if_false]
    refine wpAny_bind (iterAll_ok hls fun h₁ its hl nd bd at_ sz kp => ?_)
    refine wpAny_bind (wpAny_newTuple ?_ (VL.line1000 (by simp; omega)))
    refine wpAny_bind (wpAny_newTuple ?_ (VL.line1000 (by simp; omega)))
    refine wpAny_bind ?_
    unfold Builtin.SmallTypes.newRecord
    refine wpAny_newObj_type ?_ (show (5 : Nat) ≤ sizeLine + 2 from by decide)
    have z1 : (h₁.push (TObj (its.map Value.ref))).objs.size = h₁.objs.size + 1 := Heap.size_push ..
    have z2 : ((h₁.push (TObj (its.map Value.ref))).push (TObj ((its.map Value.ref).map fun _ => Value.none))).objs.size = h₁.objs.size + 2 := by rw [Heap.size_push, z1]
    have z3 : (((h₁.push (TObj (its.map Value.ref))).push (TObj ((its.map Value.ref).map fun _ => Value.none))).push (ZObj .none false h₁.objs.size (h₁.push (TObj (its.map Value.ref))).objs.size)).objs.size = h₁.objs.size + 3 := by rw [Heap.size_push, z2]
    have up : ∀ c o, h₁.get? c = some o → (((h₁.push (TObj (its.map Value.ref))).push (TObj ((its.map Value.ref).map fun _ => Value.none))).push (ZObj .none false h₁.objs.size (h₁.push (TObj (its.map Value.ref))).objs.size)).get? c = some o := fun c o e => Heap.get?_push_of_some _ (Heap.get?_push_of_some _ (Heap.get?_push_of_some _ e))
    have g3 : (((h₁.push (TObj (its.map Value.ref))).push (TObj ((its.map Value.ref).map fun _ => Value.none))).push (ZObj .none false h₁.objs.size (h₁.push (TObj (its.map Value.ref))).objs.size)).get? (h₁.objs.size + 2) = some (ZObj .none false h₁.objs.size (h₁.push (TObj (its.map Value.ref))).objs.size) := by
      rw [← z2]
      exact Heap.get?_push_size _ rfl
    have g2 : (((h₁.push (TObj (its.map Value.ref))).push (TObj ((its.map Value.ref).map fun _ => Value.none))).push (ZObj .none false h₁.objs.size (h₁.push (TObj (its.map Value.ref))).objs.size)).get? (h₁.objs.size + 1) = some (TObj ((its.map Value.ref).map fun _ => Value.none)) := by
      rw [← z1]
      exact Heap.get?_push_of_some _ (Heap.get?_push_size _ rfl)
    have g1 : (((h₁.push (TObj (its.map Value.ref))).push (TObj ((its.map Value.ref).map fun _ => Value.none))).push (ZObj .none false h₁.objs.size (h₁.push (TObj (its.map Value.ref))).objs.size)).get? h₁.objs.size = some (TObj (its.map Value.ref)) :=
      Heap.get?_push_of_some _ (Heap.get?_push_of_some _ (Heap.get?_push_size _ rfl))
    have lt : ∀ l ∈ ls, s.heap.objs.size > l := fun l hl => by
      obtain ⟨xs, o, e, _⟩ := hls l hl
      exact Heap.lt_size e
    rw [z1] at up g3 g2 g1 z3
    refine wpAny_pure ?_
    show Shared.TypeIs _ (.ref ((h₁.push (TObj (its.map Value.ref))).push (TObj ((its.map Value.ref).map fun _ => Value.none))).objs.size) _ ∧ Q (.ref ((h₁.push (TObj (its.map Value.ref))).push (TObj ((its.map Value.ref).map fun _ => Value.none))).objs.size) _
    rw [z2]
    show Shared.TypeIs { s with heap := ((h₁.push (TObj (its.map Value.ref))).push (TObj ((its.map Value.ref).map fun _ => Value.none))).push (ZObj .none false h₁.objs.size (h₁.push (TObj (its.map Value.ref))).objs.size) } _ _ ∧ Q _ { s with heap := ((h₁.push (TObj (its.map Value.ref))).push (TObj ((its.map Value.ref).map fun _ => Value.none))).push (ZObj .none false h₁.objs.size (h₁.push (TObj (its.map Value.ref))).objs.size) }
    rw [z1]
    generalize ((h₁.push (TObj (its.map Value.ref))).push (TObj ((its.map Value.ref).map fun _ => Value.none))).push (ZObj .none false h₁.objs.size (h₁.objs.size + 1)) = hh at *
    have nz : ∀ n : Nat, 0 < n → h₁.objs.size + n ≠ h₁.objs.size := fun n hn e => by omega
    have ib : ∀ i ∈ its, ∀ n : Nat, i ≠ h₁.objs.size + n := fun i hi n e => by
      have q := (bd i hi).2
      rw [e] at q
      omega
    refine ⟨⟨_, g3, rfl⟩, hQ hh (h₁.objs.size + 2) h₁.objs.size (h₁.objs.size + 1) its ⟨Nat.ne_of_lt (show h₁.objs.size < h₁.objs.size + 2 by omega), Nat.ne_of_lt (show h₁.objs.size + 1 < h₁.objs.size + 2 by omega), Nat.ne_of_lt (show h₁.objs.size < h₁.objs.size + 1 by omega), fun i hi => ⟨ib i hi 2, ib i hi 0, ib i hi 1⟩, nd, fun l hl => ?_⟩
      ⟨⟨.none, false, .inl rfl, g3⟩, g1, ⟨_, by simp, g2⟩, hl, fun j i l e1 e2 => (at_ j i l e1 e2).at fun o e => up _ o e⟩ (fun e => by rw [e] at hl; simp at hl; omega) ?_ (by omega) fun c o e => up c o (kp c o e)⟩
    · have q := lt l hl
      refine ⟨fun e => ?_, fun e => ?_, fun e => ?_⟩
      · rw [e] at q; omega
      · rw [e] at q; omega
      · have := (bd l e).1
        omega
    · rintro c (rfl | rfl | rfl | hc)
      · omega
      · exact sz
      · omega
      · exact (bd c hc).1
  · rintro obj s₁ ⟨h1, h2⟩
    exact ⟨h1, argsInit hn' _, object_init_meets F.called_zip.init.lookup F.called_zip.made (by decide) prog w A.in1 _ s₁ ⟨h1, rfl, h2⟩⟩
end
end ZN
end
section
set_option Elab.async false
set_option linter.all false
set_option maxRecDepth 100000
set_option maxHeartbeats 2000000
/-! VL27: for x in zip(*e), e a tuple of up to six tuples of one length. -/
namespace ZN
open PySem PySem.Spec PyProof.Rows L2
/-- the tuples at ls as they stand at each turn, the items in new tuples -/
def ItzN (K : PySem.W.Frag) (ls : List Addr) : It :=
  ⟨fun i H => ∃ row : List V, row.length = ls.length ∧ ∀ (j : Nat) (l : Addr) (x : V), ls[j]? = some l → row[j]? = some x → ∃ xs, SqT K H l xs ∧ xs[i]? = some x,
    fun i H v H' => ∃ (T : Addr) (row : List V), v = .ref T ∧ H T = none ∧ H' = upd H T (.tup row) ∧ row.length = ls.length ∧ ∀ (j : Nat) (l : Addr) (x : V), ls[j]? = some l → row[j]? = some x → ∀ xs, SqT K H l xs → xs[i]? = some x,
    fun i H => ∃ (l : Addr) (xs : List V), ls[0]? = some l ∧ SqT K H l xs ∧ xs.length ≤ i⟩
theorem vals_of {f : Nat → V → Value → Prop} : ∀ (row : List V), (∀ (j : Nat) (x : V), row[j]? = some x → ∃ u, RelV x u ∧ f j x u) → ∃ us : List Value, Vals row us ∧ ∀ (j : Nat) (x : V) (u : Value), row[j]? = some x → us[j]? = some u → f j x u
  | [], _ => ⟨[], .nil, by simp⟩
  | x :: row, h => by
    obtain ⟨u, r, hu⟩ := h 0 x rfl
    obtain ⟨us, rs, hus⟩ := vals_of (f := fun j => f (j + 1)) row fun j y e => h (j + 1) y (by simpa using e)
    refine ⟨u :: us, .cons r rs, fun j y w e1 e2 => ?_⟩
    cases j with
    | zero =>
      simp at e1 e2
      subst e1 e2
      exact hu
    | succ j => exact hus j y w (by simpa using e1) (by simpa using e2)
theorem turn_zipN {P : Program} {w : World} {K : PySem.W.Frag} {y : Str} {py : Pos} {z TI TO : Addr} {its ls : List Addr} (D : ZAp z TI TO its ls) (h0 : its ≠ []) (hn : its.length ≤ 1000) :
    Turn P w K (.Name y py) (ItzN K ls) (z :: TI :: TO :: its) z (fun i h => ZSt z TI TO its ls i h) where
  mem := by simp
  obj := fun i h st c hc => by
    obtain ⟨⟨f0, f1, _, hz⟩, hTI, ⟨kept, _, hTO⟩, hlen, hat⟩ := st
    rcases List.mem_cons.mp hc with q | hc
    · rw [q]; exact ⟨_, hz, fun v q => nomatch q⟩
    rcases List.mem_cons.mp hc with q | hc
    · rw [q]; exact ⟨_, hTI, fun v q => nomatch q⟩
    rcases List.mem_cons.mp hc with q | hc
    · rw [q]; exact ⟨_, hTO, fun v q => nomatch q⟩
    obtain ⟨j, hj, e⟩ := List.getElem_of_mem hc
    obtain ⟨o1, e1, _, d1⟩ := hat j c (ls[j]'(by omega)) (by rw [List.getElem?_eq_getElem hj, e]) (List.getElem?_eq_getElem _)
    exact ⟨o1, e1, fun v q => by rw [d1] at q; cases q⟩
  keep := fun i h h' st k => by
    obtain ⟨⟨f0, f1, hf, hz⟩, hTI, ⟨kept, hk, hTO⟩, hlen, hat⟩ := st
    exact ⟨⟨f0, f1, hf, k z (by simp) _ hz⟩, k TI (by simp) _ hTI, ⟨kept, hk, k TO (by simp) _ hTO⟩, hlen, fun j i' l e1 e2 => (hat j i' l e1 e2).at fun o q => k i' (by simp [List.mem_of_getElem? e1]) o q⟩
  item := by
    intro X hP hw hK hc i pins s σ H E I hf st hg
    subst hP hw hK
    obtain ⟨row, hr, hrow⟩ := hg
    obtain ⟨us, rv, hus⟩ := vals_of (f := fun j x u => ∀ l, ls[j]? = some l → ∃ xs : Array Value, s.heap.IsTuple l xs ∧ xs[i]? = some u) row (fun j x e => by
      have hj : j < ls.length := by
        have := (List.getElem?_eq_some_iff.mp e).1
        omega
      have el : ls[j]? = some ls[j] := List.getElem?_eq_getElem hj
      obtain ⟨xs, q1, q2⟩ := hrow j _ x el e
      obtain ⟨it, rv, p, _⟩ := I.tuple q1
      obtain ⟨u, hu, ru⟩ := rv.get q2
      exact ⟨u, ru, fun l e2 => by
        rw [el] at e2
        cases e2
        exact ⟨_, p, by simpa using hu⟩⟩)
    have lus : us.length = its.length := by rw [← rv.length, hr, st.len]
    have hzl : z < s.heap.objs.size := by
      obtain ⟨_, _, _, hz⟩ := st.z
      exact Heap.lt_size hz
    refine next_item D st h0 (fun j l v e1 e2 => ?_) lus hn fun h' st' hT hsz hk => ?_
    · have hj : j < row.length := by
        have := (List.getElem?_eq_some_iff.mp e2).1
        rw [rv.length]
        exact this
      exact hus j row[j] v (List.getElem?_eq_getElem hj) e2 l e1
    refine ⟨_, rfl, ?_⟩
    show wpAny _ _ (pure ()) _ _ _
    refine wpAny_pure ?_
    have new : ObjOk X.prog X.w (upd H s.heap.objs.size (.tup row)) h' s.heap.objs.size (.tup row) :=
      ⟨VL.line1000 (by rw [hr, ← st.len]; exact hn), us, rv, ⟨_, hT, rfl, _, rfl⟩⟩
    have I1 : Inv X pins σ (upd H s.heap.objs.size (.tup row)) { s with heap := h' } :=
      I.turnedNew (t' := s.toks) (ch := z :: TI :: TO :: its) (fun c o hb q => hk c o (fun q' => hb (by simp [q'])) (fun q' => hb (by simp [q'])) (fun q' => hb (by simp [q'])) q) hf (Nat.le_refl _) new
    refine ⟨.ref s.heap.objs.size, _, I1, rfl, ⟨_, row, rfl, I.hok.fresh (Nat.le_refl _), rfl, hr, fun j l x e1 e2 xs hx => ?_⟩, st', fun c hcm => ?_⟩
    · obtain ⟨ys, q1, q2⟩ := hrow j l x e1 e2
      rw [I.tuple_inj hx q1]
      exact q2
    · have hlt : c < s.heap.objs.size := by
        obtain ⟨⟨f0, f1, _, hz⟩, hTI, ⟨kept, _, hTO⟩, hlen, hat⟩ := st
        rcases List.mem_cons.mp hcm with q | hcm
        · rw [q]; exact hzl
        rcases List.mem_cons.mp hcm with q | hcm
        · rw [q]; exact Heap.lt_size hTI
        rcases List.mem_cons.mp hcm with q | hcm
        · rw [q]; exact Heap.lt_size hTO
        obtain ⟨j, hj, e⟩ := List.getElem_of_mem hcm
        obtain ⟨o1, e1, _, d1⟩ := hat j c (ls[j]'(by omega)) (by rw [List.getElem?_eq_getElem hj, e]) (List.getElem?_eq_getElem _)
        exact Heap.lt_size e1
      rw [upd_ne (Nat.ne_of_lt hlt)]
      exact (hf c hcm).1
  done := by
    intro X hP hw hK hc i pins s σ H E I hf st hg
    subst hP hw hK
    obtain ⟨l, xs, hl, hq, hend⟩ := hg
    obtain ⟨it, rv, p, _⟩ := I.tuple hq
    have l1 := rv.length
    exact next_end (I.ok.hd hc) D st hl p (by simp; omega) fun h' hk => ⟨rfl, I.turnedL (t' := s.toks) (ch := z :: TI :: TO :: its) (fun c o hb q =>
      hk c o (fun q' => hb (by simp [q'])) (fun q' => hb (by simp [q'])) (fun q' => hb (by simp [q'])) q) hf⟩
  self := fun A i s Q E st h => iter_zip st h
def iZipS (K : PySem.W.Frag) (te : TE) : TI := fun σ H R => te σ H fun x H1 => ∃ (a : Addr) (ls : List Addr), x = .ref a ∧ (SqT K H1 a (ls.map V.ref) ∨ SqL K H1 a (ls.map V.ref)) ∧ argsOkB ls.length = true ∧ (∀ l ∈ ls, ∃ ys, SqT K H1 l ys) ∧ R (ItzN K ls) H1
theorem vals_refs : ∀ {ls : List Addr} {us : List Value}, Vals (ls.map V.ref) us → us = ls.map Value.ref
  | [], _, h => by cases h; rfl
  | l :: ls, _, h => by
    cases h with
    | cons r t =>
      cases r
      rw [vals_refs t]
      rfl
theorem pi_zipS {X : Cx} {e : Expr} {te : TE} {p sp_ pos py : Pos} {y : Str} (hg : Gl X "zip") (hm : X.mg "zip" = none) (he : PE X e te)
    (hst : starEach [.Starred e sp_] X.env = [(true, eval e X.env)] := by rfl) : PI X (.Name y py) (.Call (.Name "zip" p) [.Starred e sp_] [] pos) (iZipS X.K te) := by
  refine ⟨fun pins s σ H R I h => ?_⟩
  refine Call_ (ld_blt I hg hm PyProof.Rows.boot_zip ?_)
  rw [hst]
  refine PySem.W.ks_call (P := fun _ => True) rfl (fun h _ => ⟨.machine, .inr (.inl rfl), PySem.W.Looks.of_pure rfl⟩) (PySem.W.ks_lone (thn (he.run pins s σ H _ I h) fun v s1 ⟨x, H1, I1, rx, a, ls, ex, hx, hn, hls, q⟩ => ?_))
  subst ex
  obtain rfl : v = Value.ref a := rx
  refine StX.star_any I1 hx fun us s2 I2 rv => ⟨trivial, ?_⟩
  obtain rfl := vals_refs rv
  show wpAny _ _ (call (.type "zip") ([] ++ ls.map Value.ref) []) _ _ _
  rw [List.nil_append]
  have hls2 : ∀ l ∈ ls, ∃ xs, s2.heap.IsTuple l xs := fun l hl => by
    obtain ⟨ys, hy⟩ := hls l hl
    obtain ⟨it, rv, p, _⟩ := I2.tuple hy
    exact ⟨_, p⟩
  refine call_zipN hn hls2 fun h' z TI TO its D st h0 hge hsz hk => iter_zip st ?_
  have I3 : Inv X pins σ H1 { s2 with heap := h' } := I2.kept (t' := s2.toks) hk
  have h1000 : its.length ≤ 1000 := by
    unfold argsOkB at hn
    simp at hn
    rw [st.len]
    omega
  exact ⟨z, z :: TI :: TO :: its, _, _, H1, rfl, I3, turn_zipN D h0 h1000, st, fun c hcm => I2.fpOk (hge c (by simpa using hcm)) (I2.hok.fresh (hge c (by simpa using hcm))) , q⟩
end ZN
namespace VL
open PySem PySem.Spec L2
open PyProof.Rows hiding St
def tupsO : List D → Option (List (List D))
  | [] => some []
  | .tup xs :: r => (tupsO r).map fun q => xs :: q
  | _ :: _ => none
def colsOf (rs : List (List D)) (m : Nat) : List D := (List.range m).map fun i => .tup (rs.map fun r => r.getD i .non)
def zipSD : D → Option (List D)
  | .tup rows => (tupsO rows).bind fun rs => if ZN.argsOkB rs.length && rs.all (fun r => decide (r.length = (rs.headD []).length)) then some (colsOf rs (rs.headD []).length) else none
  | _ => none
section
variable {K : PySem.W.Frag} {C : Ctx} {F F' : Addr → Prop} {H H' : Hp}
theorem tupsO_rep : ∀ {ds : List D} {rs : List (List D)} {vs : List V}, tupsO ds = some rs → RepL K C F H ds vs → ∃ ps : List (Addr × List V × List D), vs = (ps.map (·.1)).map V.ref ∧ rs = ps.map (·.2.2) ∧ ∀ p ∈ ps, SqT K H p.1 p.2.1 ∧ RepL K C F H p.2.2 p.2.1
  | [], rs, _, e, .nil => by cases e; exact ⟨[], rfl, rfl, by simp⟩
  | d :: ds, rs, _, e, .cons r t => by
    cases d <;> first | cases e | skip
    unfold tupsO at e
    obtain ⟨q, e1, rfl⟩ := map_some e
    obtain ⟨a, vs, rfl, l, p⟩ := r.tupI
    obtain ⟨ps, rfl, rfl, h⟩ := tupsO_rep e1 t
    refine ⟨(a, vs, _) :: ps, rfl, rfl, fun p' hp => ?_⟩
    rcases List.mem_cons.mp hp with z | z
    · rw [z]
      exact ⟨l, p⟩
    · exact h p' z
theorem itr_zipN {ps : List (Addr × List V × List D)} {m : Nat} (h0 : ps ≠ []) (h : ∀ p ∈ ps, SqT K H p.1 p.2.1 ∧ RepL K C F H p.2.2 p.2.1 ∧ p.2.2.length = m) :
    ItR K C (ZN.ItzN K (ps.map (·.1))) F H (colsOf (ps.map (·.2.2)) m) := fun F' H' mv => by
  have hlen : (colsOf (ps.map (·.2.2)) m).length = m := by simp [colsOf]
  have h' : ∀ p ∈ ps, SqT K H' p.1 p.2.1 ∧ RepL K C F' H' p.2.2 p.2.1 ∧ p.2.1.length = m := fun p hp => by
    obtain ⟨a, b, c⟩ := h p hp
    exact ⟨mv.kp.sqT a, b.mv mv, by rw [← b.length]; exact c⟩
  have atP : ∀ (j : Nat) (l : Addr), (ps.map (·.1))[j]? = some l → ∃ p, ps[j]? = some p ∧ p.1 = l := fun j l e => by
    rw [List.getElem?_map] at e
    cases q : ps[j]? with
    | none => rw [q] at e; cases e
    | some p => rw [q] at e; cases e; exact ⟨p, rfl, rfl⟩
  refine ⟨fun i x hx => ?_, fun i hi => ?_⟩
  · have him : i < m := by
      have := (List.getElem?_eq_some_iff.mp hx).1
      omega
    have hxe : x = .tup ((ps.map (·.2.2)).map fun r => r.getD i .non) := by
      unfold colsOf at hx
      rw [List.getElem?_map, List.getElem?_range him] at hx
      cases hx
      rfl
    subst hxe
    refine ⟨⟨ps.map fun p => p.2.1.getD i .non, by simp, fun j l y e1 e2 => ?_⟩, fun v H2 y => ?_⟩
    · obtain ⟨p, e3, rfl⟩ := atP j l e1
      obtain ⟨q1, q2, q3⟩ := h' p (List.mem_of_getElem? e3)
      rw [List.getElem?_map, e3] at e2
      cases e2
      refine ⟨_, q1, ?_⟩
      have hl : i < p.2.1.length := by omega
      show p.2.1[i]? = some (p.2.1.getD i .non)
      simp [hl]
    · obtain ⟨T, row, rfl, hT, rfl, hr, hrow⟩ := y
      have e : row = ps.map fun p => p.2.1.getD i .non := by
        apply List.ext_getElem?
        intro j
        by_cases hj : j < ps.length
        · have e3 : ps[j]? = some ps[j] := List.getElem?_eq_getElem hj
          have e1 : (ps.map (·.1))[j]? = some ps[j].1 := by rw [List.getElem?_map, e3]; rfl
          have hjr : j < row.length := by rw [hr, List.length_map]; exact hj
          obtain ⟨q1, q2, q3⟩ := h' _ (List.mem_of_getElem? e3)
          have := hrow j ps[j].1 row[j] e1 (List.getElem?_eq_getElem hjr) _ q1
          rw [List.getElem?_eq_getElem hjr, List.getElem?_map, e3]
          show some row[j] = some (ps[j].2.1.getD i .non)
          rw [List.getD, this]
          rfl
        · rw [List.getElem?_eq_none (by rw [hr, List.length_map]; omega), List.getElem?_eq_none (by rw [List.length_map]; omega)]
      subst e
      refine ⟨Gro.new hT, repNewT hT ?_⟩
      have key : ∀ qs : List (Addr × List V × List D), (∀ p ∈ qs, SqT K H' p.1 p.2.1 ∧ RepL K C F' H' p.2.2 p.2.1 ∧ p.2.1.length = m) → RepL K C F' H' ((qs.map (·.2.2)).map fun r => r.getD i .non) (qs.map fun p => p.2.1.getD i .non) := by
        intro qs
        induction qs with
        | nil => exact fun _ => .nil
        | cons p qs ih =>
          intro hq
          obtain ⟨q1, q2, q3⟩ := hq p (by simp)
          refine .cons ?_ (ih fun p hp => hq p (List.mem_cons_of_mem _ hp))
          have hl : i < p.2.2.length := by rw [q2.length]; omega
          obtain ⟨v, e1, e2⟩ := q2.get (List.getElem?_eq_getElem hl)
          have hl2 : i < p.2.1.length := by omega
          have f1 : p.2.2.getD i .non = p.2.2[i] := by simp [hl]
          have f2 : p.2.1.getD i .non = p.2.1[i] := by simp [hl2]
          show Rep K C F' H' (p.2.2.getD i .non) (p.2.1.getD i .non)
          rw [f1, f2]
          rw [List.getElem?_eq_getElem hl2] at e1
          cases e1
          exact e2
      exact key ps h'
  · obtain ⟨p, r, rfl⟩ : ∃ p r, ps = p :: r := by
      cases ps with
      | nil => exact absurd rfl h0
      | cons p r => exact ⟨p, r, rfl⟩
    obtain ⟨q1, q2, q3⟩ := h' p (by simp)
    exact ⟨p.1, p.2.1, rfl, q1, by rw [q3]; omega⟩
end
section
variable {X : Cx} {C : Ctx} {e : Expr} {p sp_ pos py : Pos} {y : Str} {fa : Rho → Option D}
theorem qi_zipS (hg : Gl X "zip") (hm : X.mg "zip" = none) (he : QE X C e fa) (hst : starEach [.Starred e sp_] X.env = [(true, eval e X.env)] := by rfl) :
    QI X C (.Name y py) (.Call (.Name "zip" p) [.Starred e sp_] [] pos) (fun ρ => (fa ρ).bind zipSD) :=
  wkI (ZN.pi_zipS hg hm he hst) fun σ H Q ⟨A, α, ρ, xs, s, e, q⟩ => by
    obtain ⟨d, e1, e2⟩ := bind_some e
    refine ⟨A, α, ρ, d, s, e1, fun v H1 g1 r1 => ?_⟩
    unfold zipSD at e2
    cases d <;> first | cases e2 | skip
    rename_i rows
    obtain ⟨rs, e3, e4⟩ := bind_some e2
    obtain ⟨c, rfl⟩ := if_some e4
    rw [Bool.and_eq_true] at c
    obtain ⟨a, vs, rfl, l, rp⟩ := r1.tupI
    obtain ⟨ps, rfl, rfl, hps⟩ := tupsO_rep e3 rp
    have c1 := c.1
    rw [List.length_map] at c1
    refine ⟨a, ps.map (·.1), rfl, .inl l, by rw [List.length_map]; exact c1, fun l hl => ?_, q _ H1 g1 (itr_zipN (fun z => ?_) fun p hp => ?_)⟩
    · obtain ⟨p, hp, rfl⟩ := List.mem_map.mp hl
      exact ⟨_, (hps p hp).1⟩
    · rw [z] at c1
      cases c1
    · obtain ⟨a1, a2⟩ := hps p hp
      exact ⟨a1, a2, of_decide_eq_true (List.all_eq_true.mp c.2 _ (List.mem_map_of_mem hp))⟩
end
end VL
end
section
set_option Elab.async false
set_option linter.all false
set_option maxRecDepth 100000
set_option maxHeartbeats 2000000
/-! EN: enumerate of a tuple (the library's proofs for lists, turned). -/
namespace EN
open PySem PySem.Spec PyProof.Rows L2
open AutoSeq1 (wpAny_loadPart')
theorem meets_en_new (l : Addr) (items : Array Value) (n : Nat) (dct : Option Addr) (sl : Array (Option Value)) :
    Meets (Builtin.«enumerate.__new__» ⟨[.type "enumerate", .ref l], []⟩) (fun _ R s => s.heap.get? l = some { cls := .type "tuple", dict := dct, data := .seq items n, slots := sl } ∧
      R (.ok (.ret (.ref (s.heap.push { cls := .type "tuple_iterator", data := .fields #[.ref l, .int 0 0] }).objs.size)))
        { s with heap := (s.heap.push { cls := .type "tuple_iterator", data := .fields #[.ref l, .int 0 0] }).push { cls := .type "enumerate", data := .fields #[.none, .bool false, .ref s.heap.objs.size, rawInt 0, .none, .none] } }) :=
  .of_wp fun prog w A R s h => by
    obtain ⟨hp, g, d, tk, os⟩ := s; obtain ⟨hl, h⟩ := h
    have hsub := sub_enumerate
    have hL : Heap.IsTuple (Shared.heap ⟨hp, g, d, tk, os⟩) l items := ⟨_, hl, rfl, n, rfl⟩
    wp_walk using wpAny_loadPart' hl
    refine wpAny_stack_any fun st => wpAny_pure ?_
    split
    · rename_i c _ _ _ _ _
      cases (c == Value.type "enumerate")
      · wp_walk using wpAny_loadPart' hl, wpAny_pyIter_tuple hL
        exact ⟨_, rfl, h⟩
      · wp_walk using wpAny_loadPart' hl, wpAny_pyIter_tuple hL
        exact ⟨_, rfl, h⟩
    · wp_walk using wpAny_loadPart' hl, wpAny_pyIter_tuple hL
      exact ⟨_, rfl, h⟩
section
variable {prog : Program} {w : World} {A : Around} {E : Value → Shared → Prop} {s : Shared}
theorem en_next {e it l : Addr} {i : Nat} {items : Array Value} {x old : Value} {Q : Value → Shared → Prop}
    (he : IsEnum s.heap e it i old) (hit : s.heap.IsTupleIter it l i) (hl : s.heap.IsTuple l items) (hx : items[i]? = some x) (hne : e ≠ it)
    (hQ : ∀ h', IsEnumOut h' e it ((i : Int) + 1) x s.heap.objs.size → h'.IsTupleIter it l (i + 1) →
      h'.get? s.heap.objs.size = some { cls := .type "tuple", data := .seq #[.int i s.toks, x] } → h'.objs.size = s.heap.objs.size + 1 →
      (∀ b o, b ≠ e → b ≠ it → s.heap.get? b = some o → h'.get? b = some o) → Q (.ref s.heap.objs.size) { s with heap := h', toks := s.toks + 1 }) :
    wpAny (model prog w) A (Builtin.«enumerate.__next__» ⟨[.ref e], []⟩) (fun fin s' => ∃ v, fin = .done (.ret v) ∧ Q v s') E s := by
  obtain ⟨hp, g, d, tk, os⟩ := s
  show wpAny _ _ (field (.ref e) 2 >>= _) _ _ _
  refine wpAny_bind (wpAny_field he rfl (x := .ref it) rfl ?_)
  refine wpAny_bind (RZ.nextOf_tuple_item hit hl hx fun h₁ hit₁ hs₁ => ?_)
  replace hs₁ : Heap.SameBut it hp h₁ := hs₁
  have he₁ : IsEnum h₁ e it i old := (hs₁.2 e hne).trans he
  show wpAny _ _ (field (.ref e) 3 >>= _) _ _ ⟨h₁, g, d, tk, os⟩
  refine wpAny_bind (wpAny_field he₁ rfl (x := rawInt i) rfl ?_)
  show wpAny _ _ (field (.ref e) 4 >>= _) _ _ ⟨h₁, g, d, tk, os⟩
  refine wpAny_bind (wpAny_field he₁ rfl (x := .none) rfl ?_)
  show wpAny _ _ (mkInt i >>= _) _ _ ⟨h₁, g, d, tk, os⟩
  refine wpAny_bind (wpAny_mkInt ?_)
  show wpAny _ _ (setField (.ref e) 3 (rawInt ((i : Int) + 1)) >>= _) _ _ ⟨h₁, g, d, tk + 1, os⟩
  refine wpAny_bind (wpAny_setField_rec he₁ (by simp) fun h₂ he₂ hs₂ => ?_)
  replace hs₂ : Heap.SameBut e h₁ h₂ := hs₂
  replace he₂ : IsEnum h₂ e it ((i : Int) + 1) old := he₂
  show wpAny _ _ (setField (.ref e) 4 .none >>= _) _ _ ⟨h₂, g, d, tk + 1, os⟩
  refine wpAny_bind (wpAny_setField_rec he₂ (by simp) fun h₃ he₃ hs₃ => ?_)
  replace hs₃ : Heap.SameBut e h₂ h₃ := hs₃
  replace he₃ : IsEnum h₃ e it ((i : Int) + 1) old := he₃
  show wpAny _ _ (newTuple [.int i tk, x] >>= _) _ _ ⟨h₃, g, d, tk + 1, os⟩
  refine wpAny_bind (wpAny_newTuple ?_)
  have he₄ : IsEnum (h₃.push { cls := .type "tuple", data := .seq #[.int i tk, x] }) e it ((i : Int) + 1) old := Heap.get?_push_of_some _ he₃
  generalize hh₄ : h₃.push { cls := .type "tuple", data := .seq #[.int i tk, x] } = h₄ at he₄
  have hsz : h₃.objs.size = hp.objs.size := by rw [hs₃.1, hs₂.1, hs₁.1]
  have hel : e < hp.objs.size := Heap.lt_size he
  have ht₄ : h₄.get? hp.objs.size = some { cls := .type "tuple", data := .seq #[.int i tk, x] } := by rw [← hh₄, ← hsz]; exact Heap.get?_push_size _ rfl
  have hz₄ : h₄.objs.size = hp.objs.size + 1 := by rw [← hh₄, Heap.size_push, hsz]
  have hk₄ : ∀ b o, b ≠ e → b ≠ it → hp.get? b = some o → h₄.get? b = some o := fun b o hbe hbi hb => by
    rw [← hh₄]; exact Heap.get?_push_of_some _ (hs₃.extBut b o hbe (hs₂.extBut b o hbe (hs₁.extBut b o hbi hb)))
  have hit₄ : h₄.IsTupleIter it l (i + 1) := by
    rw [← hh₄]; obtain ⟨o, ho, r⟩ := (hit₁.extBut hs₂.extBut (Ne.symm hne)).extBut hs₃.extBut (Ne.symm hne); exact ⟨o, Heap.get?_push_of_some _ ho, r⟩
  show wpAny _ _ (Builtin.SmallTypes.ownedTupleIsFree (.ref e) >>= _) _ _ ⟨h₄, g, d, tk + 1, os⟩
  rw [hsz]
  clear hh₄ he₃ hs₃ he₂ hs₂ he₁ hs₁ hit₁ hsz h₃ h₂ h₁
  refine wpAny_bind ?_
  · unfold Builtin.SmallTypes.ownedTupleIsFree
    refine wpAny_bind (wpAny_field he₄ rfl (x := .none) rfl (wpAny_pure ?_))
    simp only [if_true]
    refine wpAny_bind (wpAny_rule ?_)
    refine wpAny_bind (wpAny_field he₄ rfl (x := old) rfl ?_)
    refine wpAny_bind (wpAny_setField_rec he₄ (by simp) fun h₅ he₅ hs₅ => ?_)
    replace hs₅ : Heap.SameBut e h₄ h₅ := hs₅
    replace he₅ : IsEnum h₅ e it ((i : Int) + 1) x := he₅
    show wpAny _ _ (Builtin.SmallTypes.ownedTupleHandOut (.ref e) (.ref hp.objs.size) >>= _) _ _ ⟨h₅, g, d, tk + 1, os⟩
    refine wpAny_bind ?_
    · unfold Builtin.SmallTypes.ownedTupleHandOut
      refine wpAny_bind (wpAny_setField_rec he₅ (by simp) fun h₆ he₆ hs₆ => ?_)
      replace hs₆ : Heap.SameBut e h₅ h₆ := hs₆
      replace he₆ : IsEnumOut h₆ e it ((i : Int) + 1) x hp.objs.size := he₆
      refine wpAny_setField_rec he₆ (by simp) fun h₇ he₇ hs₇ => ?_
      replace hs₇ : Heap.SameBut e h₆ h₇ := hs₇
      replace he₇ : IsEnumOut h₇ e it ((i : Int) + 1) x hp.objs.size := he₇
      refine wpAny_bind (wpAny_letGo (wpAny_pure ⟨_, rfl, hQ h₇ he₇ ?_ ?_ ?_ ?_⟩))
      · exact ((hit₄.extBut hs₅.extBut (Ne.symm hne)).extBut hs₆.extBut (Ne.symm hne)).extBut hs₇.extBut (Ne.symm hne)
      · exact hs₇.extBut _ _ (Nat.ne_of_gt hel) (hs₆.extBut _ _ (Nat.ne_of_gt hel) (hs₅.extBut _ _ (Nat.ne_of_gt hel) ht₄))
      · rw [hs₇.1, hs₆.1, hs₅.1, hz₄]
      · exact fun b o hbe hbi hb => hs₇.extBut b o hbe (hs₆.extBut b o hbe (hs₅.extBut b o hbe (hk₄ b o hbe hbi hb)))
theorem en_item {e it l : Addr} {i : Nat} {items : Array Value} {x old : Value} {Q : Option Value → Shared → Prop}
    (he : IsEnum s.heap e it i old) (hit : s.heap.IsTupleIter it l i) (hl : s.heap.IsTuple l items) (hx : items[i]? = some x) (hne : e ≠ it)
    (hQ : ∀ h', IsEnumOut h' e it ((i : Int) + 1) x s.heap.objs.size → h'.IsTupleIter it l (i + 1) →
      h'.get? s.heap.objs.size = some { cls := .type "tuple", data := .seq #[.int i s.toks, x] } → h'.objs.size = s.heap.objs.size + 1 →
      (∀ b o, b ≠ e → b ≠ it → s.heap.get? b = some o → h'.get? b = some o) → Q (some (.ref s.heap.objs.size)) { s with heap := h', toks := s.toks + 1 }) :
    wpAny (model prog w) A (pyNext (.ref e)) Q E s := by
  have hT : s.TypeIs (.ref e) "enumerate" := ⟨_, he, rfl⟩
  unfold pyNext
  exact wpAny_bind (wpAny_attempt (wpAny_callSpecial?_slot (name := Str.ofString "__next__") hT F.slot_enumerate_next
    (wpAny_call_entry F.slot_enumerate_next hT F.entry_enumerate_next
      (en_next he hit hl hx hne fun h' a b c d k => wpAny_pure (hQ h' a b c d k)) (F.args_enumerate_next_1 _))))
theorem en_end {e it l : Addr} {i : Nat} {items : Array Value} {old : Value} {Q : Option Value → Shared → Prop} (hh : A.handled = none)
    (he : IsEnum s.heap e it i old) (hit : s.heap.IsTupleIter it l i) (hl : s.heap.IsTuple l items) (hx : items[i]? = none)
    (hQ : ∀ h', Heap.ExtBut it s.heap h' → Q none { s with heap := h' }) : wpAny (model prog w) A (pyNext (.ref e)) Q E s := by
  have hT : s.TypeIs (.ref e) "enumerate" := ⟨_, he, rfl⟩
  unfold pyNext
  refine wpAny_bind (wpAny_attempt (wpAny_callSpecial?_slot (name := Str.ofString "__next__") hT F.slot_enumerate_next
    (wpAny_call_entry F.slot_enumerate_next hT F.entry_enumerate_next ?_ (F.args_enumerate_next_1 _))))
  show wpAny _ _ (field (.ref e) 2 >>= _) _ _ _
  refine wpAny_bind (wpAny_field he rfl (x := .ref it) rfl ?_)
  refine wpAny_bind (RZ.nextOf_tuple_end hh hit hl hx fun h' x he' hx' => ?_)
  obtain ⟨o, ho, hc⟩ := hx'
  refine wpAny_bind (wpAny_isInstance (T := "StopIteration") (b := true) ⟨o, ho, hc⟩ isSubtype_stop ?_)
  exact wpAny_pure (hQ _ he')
theorem call_en {l : Addr} {items : Array Value} {Q : Value → Shared → Prop} (hL : s.heap.IsTuple l items)
    (h : ∀ h', IsEnum h' (s.heap.objs.size + 1) s.heap.objs.size 0 .none → h'.IsTupleIter s.heap.objs.size l 0 → h'.objs.size = s.heap.objs.size + 2 →
      (∀ b o, s.heap.get? b = some o → h'.get? b = some o) → Q (.ref (s.heap.objs.size + 1)) { s with heap := h' }) :
    wpAny (model prog w) A (call (.type "enumerate") [.ref l]) Q E s := by
  obtain ⟨⟨c, dct, dt, sl⟩, hl, hc, n, hd⟩ := hL
  replace hc : c = .type "tuple" := hc
  replace hd : dt = .seq items n := hd
  subst hc hd
  refine callType_new F.called_enumerate (by decide) (F.typeCall_enumerate_1 _) (F.newCall_enumerate_1 _) (fun obj => F.args_object_init_2 obj _) F.entry_enumerate_new
    (meets_en_new l items n dct sl) ⟨hl, ?_⟩
  have hz : (s.heap.push { cls := .type "tuple_iterator", data := .fields #[.ref l, .int 0 0] }).objs.size = s.heap.objs.size + 1 := Heap.size_push ..
  show _ ∧ _
  rw [hz]
  have he : IsEnum ((s.heap.push { cls := .type "tuple_iterator", data := .fields #[.ref l, .int 0 0] }).push
      { cls := .type "enumerate", data := .fields #[.none, .bool false, .ref s.heap.objs.size, rawInt 0, .none, .none] }) (s.heap.objs.size + 1) s.heap.objs.size 0 .none := by
    have := Heap.get?_push_size (s.heap.push { cls := .type "tuple_iterator", data := .fields #[.ref l, .int 0 0] })
      (o := { cls := .type "enumerate", data := .fields #[.none, .bool false, .ref s.heap.objs.size, rawInt 0, .none, .none] }) rfl
    rw [hz] at this; exact this
  refine ⟨⟨_, he, rfl⟩, h _ he ⟨_, Heap.get?_push_of_some _ (Heap.get?_push_size _ rfl), rfl, rfl⟩ (by rw [Heap.size_push, hz]) fun b o x => Heap.get?_push_of_some _ (Heap.get?_push_of_some _ x)⟩
end
/-- the tuple at a as it stands at each turn, each item in a new pair -/
def IteT (K : PySem.W.Frag) (a : Addr) : It :=
  ⟨fun i H => ∃ (xs : List V) (x : V), SqT K H a xs ∧ xs[i]? = some x, fun i H v H' => ∃ T x, v = .ref T ∧ H T = none ∧ H' = upd H T (.tup [.int (i : Nat), x]) ∧ ∀ xs, SqT K H a xs → xs[i]? = some x, fun i H => ∃ xs : List V, SqT K H a xs ∧ xs.length ≤ i⟩
theorem turn_en {P : Program} {w : World} {K : PySem.W.Frag} {elts : List Expr} {kk : Nat} {tpos : Pos} (a e it : Addr) :
    Turn P w K (.Tuple elts kk tpos) (IteT K a) [e, it] e (fun i h => (∃ old, IsEnum h e it ((i : Nat) : Int) old) ∧ h.IsTupleIter it a i ∧ e ≠ it) where
  mem := by simp
  obj := fun i h st b hb => by
    obtain ⟨⟨old, he⟩, ⟨o, ho, hc, hd⟩, _⟩ := st
    have e' : b = e ∨ b = it := by simpa using hb
    rcases e' with z | z
    · rw [z]; exact ⟨_, he, fun v q => nomatch q⟩
    · rw [z]; exact ⟨o, ho, fun v q => by rw [hd] at q; cases q⟩
  keep := fun i h h' st k => let ⟨⟨old, he⟩, hi, hne⟩ := st; ⟨⟨old, k e (by simp) _ he⟩, hi.at fun o q => k it (by simp) o q, hne⟩
  item := by
    intro X hP hw hK hc i pins s σ H E I hf st hg
    subst hP hw hK
    obtain ⟨⟨old, he⟩, hit, hne⟩ := st
    obtain ⟨xs, x, hq, hx⟩ := hg
    obtain ⟨its, rv, p, hz⟩ := I.tuple hq
    obtain ⟨u, hu, ru⟩ := rv.get hx
    have hel : e < s.heap.objs.size := Heap.lt_size he
    have hil : it < s.heap.objs.size := by obtain ⟨_, q, _⟩ := hit; exact Heap.lt_size q
    refine en_item he hit p (x := u) (by simpa using hu) hne fun h' ho hit' hT hsz hk => ?_
    refine ⟨_, rfl, wpAny_letOwnedTupleGo_enum (s := { s with heap := h', toks := s.toks + 1 }) ho fun h'' he' sb => ?_⟩
    have hT2 : h''.get? s.heap.objs.size = some { cls := .type "tuple", data := .seq #[.int i s.toks, u] } := (sb.2 _ (Nat.ne_of_gt hel)).trans hT
    have new : ObjOk X.prog X.w (upd H s.heap.objs.size (.tup [.int (i : Nat), x])) h'' s.heap.objs.size (.tup [.int (i : Nat), x]) :=
      ⟨by show 2 ≤ sizeLine; decide, [.int i s.toks, u], .cons ⟨_, rfl⟩ (.cons ru .nil), ⟨_, hT2, rfl, _, rfl⟩⟩
    have I1 : Inv X pins σ (upd H s.heap.objs.size (.tup [.int (i : Nat), x])) { s with heap := h'', toks := s.toks + 1 } :=
      I.turnedNew (ch := [e, it]) (fun b ob hb q => (sb.2 b (fun z => hb (by simp [z]))).trans (hk b ob (fun z => hb (by simp [z])) (fun z => hb (by simp [z])) q)) hf (Nat.le_refl _) new
    refine ⟨.ref s.heap.objs.size, _, I1, rfl, ⟨_, x, rfl, I.hok.fresh (Nat.le_refl _), rfl, fun ys hy => by rw [I.tuple_inj hy hq]; exact hx⟩, ⟨⟨u, ?_⟩, hit'.at fun o q => (sb.2 it (Ne.symm hne)).trans q, hne⟩, fun b hb => ?_⟩
    · have e1 : ((i + 1 : Nat) : Int) = (i : Int) + 1 := by omega
      rw [e1]; exact he'
    · have hb' : b < s.heap.objs.size := by
        have e' : b = e ∨ b = it := by simpa using hb
        rcases e' with z | z
        · rw [z]; exact hel
        · rw [z]; exact hil
      rw [upd_ne (Nat.ne_of_lt hb')]
      exact (hf b hb).1
  done := by
    intro X hP hw hK hc i pins s σ H E I hf st hg
    subst hP hw hK
    obtain ⟨⟨old, he⟩, hit, hne⟩ := st
    obtain ⟨xs, hq, hx⟩ := hg
    obtain ⟨its, rv, p, hz⟩ := I.tuple hq
    obtain ⟨f0, f1, f2, f3, f4, f5⟩ := hf it (by simp)
    have hl := rv.length
    exact en_end (I.ok.hd hc) he hit p (by simp; omega) fun h' eb => ⟨rfl, I.turned (t' := s.toks) (fun b o hb q => eb b o hb q) f0 f1 f3 f4 f5⟩
  self := fun A i s Q E st h => let ⟨⟨_, he⟩, _⟩ := st; wpAny_pyIter_enum he h
def iEnT (K : PySem.W.Frag) (ta : TA) : TI := fun σ H R => ta σ H fun vs H1 => ∃ a xs, vs = [.ref a] ∧ SqT K H1 a xs ∧ R (IteT K a) H1
theorem pi_enT {X : Cx} {e : Expr} {ta : TA} {p pos tpos : Pos} {elts : List Expr} {kk : Nat} (hg : Gl X "enumerate") (hm : X.mg "enumerate" = none) (ha : PA X [e] ta) (hs : starEach [e] X.env = [(false, eval e X.env)] := by rfl) :
    PI X (.Tuple elts kk tpos) (.Call (.Name "enumerate" p) [e] [] pos) (iEnT X.K ta) := by
  refine ⟨fun pins s σ H R I h => ?_⟩
  refine Call_ (ld_blt I hg hm boot_enumerate (PyProof.Rows.callWith_type1 (thn (ha.run pos pins s σ H _ I h) fun us s1 ⟨vs, H1, I1, r1, q1⟩ => ?_) hs rfl))
  obtain ⟨a, xs, ex, hq, q⟩ := q1
  subst ex
  cases r1 with
  | cons r rr =>
    cases rr
    cases r
    obtain ⟨its, rv, p', hz⟩ := I1.tuple hq
    refine call_en p' fun h' he hit hsz hk => wpAny_pyIter_enum he ?_
    have I2 : Inv X pins σ H1 { s1 with heap := h' } := I1.kept (t' := s1.toks) hk
    refine ⟨s1.heap.objs.size + 1, [s1.heap.objs.size + 1, s1.heap.objs.size], _, _, H1, rfl, I2, turn_en a (s1.heap.objs.size + 1) s1.heap.objs.size, ⟨⟨.none, he⟩, hit, Nat.succ_ne_self _⟩, fun b hb => ?_, q⟩
    have e' : b = s1.heap.objs.size + 1 ∨ b = s1.heap.objs.size := by simpa using hb
    have hle : s1.heap.objs.size ≤ b := by
      rcases e' with z | z
      · rw [z]; exact Nat.le_add_right _ _
      · rw [z]; exact Nat.le_refl _
    exact I1.fpOk hle (I1.hok.fresh hle)
end EN
end
section
set_option Elab.async false
set_option linter.all false
set_option maxRecDepth 100000
set_option maxHeartbeats 2000000
/-! VL28: enumerate of a list or a tuple. -/
namespace VL
open PySem PySem.Spec L2
open PyProof.Rows hiding St
section
variable {K : PySem.W.Frag} {C : Ctx} {F : Addr → Prop} {H : Hp}
theorem itr_enT {a : Addr} {vs : List V} {xs : List D} (l : SqT K H a vs) (r : RepL K C F H xs vs) : ItR K C (EN.IteT K a) F H (enumL xs) := fun F' H' m => by
  have l' := m.kp.sqT l
  have r' := r.mv m
  refine ⟨fun i x e => ?_, fun i e => ⟨vs, l', ?_⟩⟩
  · unfold enumL at e
    rw [List.getElem?_map, zipIdx_get] at e
    cases e1 : xs[i]? with
    | none => rw [e1] at e; cases e
    | some x1 =>
      rw [e1] at e
      cases e
      obtain ⟨v, e3, rv⟩ := r'.get e1
      refine ⟨⟨vs, v, l', e3⟩, fun u H2 y => ?_⟩
      obtain ⟨T, x, rfl, hT, rfl, h1⟩ := y
      have q1 := h1 vs l'
      rw [e3] at q1
      cases q1
      exact ⟨Gro.new hT, repNewT hT (.cons (.int _) (.cons rv .nil))⟩
  · unfold enumL at e
    rw [List.length_map, List.length_zipIdx] at e
    rw [← r'.length]
    exact e
end
def enumAD : List D → Option (List D)
  | [.lst xs] => some (enumL xs)
  | [.tup xs] => some (enumL xs)
  | _ => none
section
variable {X : Cx} {C : Ctx} {a : Expr} {pos : Pos} {fs : Rho → Option (List D)}
theorem qi_enumA {p tpos : Pos} {elts : List Expr} {kk : Nat} (hg : Gl X "enumerate") (hm : X.mg "enumerate" = none) (ha : QA X C [a] fs) (hs : starEach [a] X.env = [(false, eval a X.env)] := by rfl) :
    QI X C (.Tuple elts kk tpos) (.Call (.Name "enumerate" p) [a] [] pos) (iC enumAD fs) :=
  wkI (pi_or (pi_enum hg hm ha.pa hs) (EN.pi_enT hg hm ha.pa hs)) fun σ H Q ⟨A, α, ρ, xs, s, e, q⟩ => by
    obtain ⟨ds, e1, e2⟩ := bind_some e
    unfold enumAD at e2
    split at e2
    · cases e2
      refine .inl ⟨A, α, ρ, _, s, e1, fun vs H1 g1 r1 => ?_⟩
      obtain ⟨v, rfl, r⟩ := r1.one
      obtain ⟨a1, v1, rfl, l, p⟩ := r.lstI
      exact ⟨a1, v1, rfl, l.sq, q _ H1 g1 (itr_enum l p)⟩
    · cases e2
      refine .inr ⟨A, α, ρ, _, s, e1, fun vs H1 g1 r1 => ?_⟩
      obtain ⟨v, rfl, r⟩ := r1.one
      obtain ⟨a1, v1, rfl, l, p⟩ := r.tupI
      exact ⟨a1, v1, rfl, l, q _ H1 g1 (itr_enT l p)⟩
    · cases e2
end
end VL
end
section
set_option Elab.async false
set_option linter.all false
set_option maxRecDepth 100000
set_option maxHeartbeats 2000000
/-! VL29: objects of slotted classes: slots and properties read, methods called, isinstance. -/
namespace VL
open PySem PySem.Spec L2
open PyProof.Rows hiding St
def oatD (c i : Nat) : D → Option D
  | .obj c' ds => if c' = c then ds[i]? else none
  | _ => none
theorem oatD_some {c i : Nat} {d r : D} (h : oatD c i d = some r) : ∃ ds, d = .obj c ds ∧ ds[i]? = some r := by
  unfold oatD at h
  split at h
  · split at h
    · rename_i e
      subst e
      exact ⟨_, rfl, h⟩
    · cases h
  · cases h
section
variable {K : PySem.W.Frag} {C : Ctx} {F : Addr → Prop} {H : Hp} {v : V}
theorem Rep.objI {c : Nat} {ds : List D} (h : Rep K C F H (.obj c ds) v) : ∃ a cA dx vs, v = .ref a ∧ C.oc c = some cA ∧ SlX.Slt H a cA dx (vs.map some) ∧ RepL K C F H ds vs := by
  cases h with
  | obj h1 h2 h3 h4 r => exact ⟨_, _, _, _, rfl, h1, .inr ⟨h2, h4⟩, r⟩
  | raw h1 h2 h3 => exact ⟨_, _, _, [], rfl, h1, .inl ⟨h2, rfl⟩, .nil⟩
end
section
variable {X : Cx} {C : Ctx} {W : WX} {c i : Nat} {cA p g : Addr} {f m : Str} {e : Expr} {es : List Expr} {pos apos : Pos} {fa : Rho → Option D} {fs : Rho → Option (List D)}
/-- e.f, a slot -/
theorem qe_sat (hoc : C.oc c = some cA) (S : SlX.SCls X.K cA) (t : SlX.Slot1 X.K cA f p i) (ha : QE X C e fa) (hb : attributeBase e f X.env (eval e X.env) = eval e X.env := by rfl) : QE X C (.Attribute e f pos) (qU (oatD c i) fa) :=
  wkE (SlX.pe_sl ha hb) fun σ H Q ⟨A, α, ρ, d, s, e, q⟩ => by
    obtain ⟨x, e1, e2⟩ := bind_some e
    obtain ⟨ds, rfl, hi⟩ := oatD_some e2
    refine ⟨A, α, ρ, _, s, e1, fun v H1 g1 r1 => ?_⟩
    obtain ⟨a, cA', dx, vs, rfl, h1, h2, h3⟩ := r1.objI
    rw [hoc] at h1
    cases h1
    obtain ⟨v, hv, rv⟩ := h3.get hi
    exact ⟨a, cA, dx, p, _, i, v, rfl, h2, S, t, by rw [List.getElem?_map, hv]; rfl, q v H1 g1 rv⟩
/-- e.f, a property: its getter's promise -/
theorem getprop {k : Nat} {fd : FuncData} {x : Str} {sp : Sp} {b : Bool} {pins : List (Addr × Obj)} {σ : L2.St} {H : Hp} {s : Shared} {a dx : Addr} {vs : List (Option V)} {Q : VK} {E : XK} (I : Inv X pins σ H s) (h : SlX.Slt H a cA dx vs) (S : SlX.SCls X.K cA) (at_ : PySem.W.findIn X.K (.ref cA) f = some (some (.ref p))) (get : PySem.W.specialIn X.K (.ref p) "__get__" = some (some (.builtin "property.__get__")))
    (tk : PySem.W.takesIn X.K (.ref p) = some true) (rc : ∃ rest, PySem.W.recIn X.K p "property" = some (.ref g :: rest)) (F : FnOkG X.prog X.w X.K X.mg X.base C8.CX0 k g fd [x] sp) (hbd : L2.Binds X.K fd [x] []) (hr : RoomG k X.A.in1) (q : sp [.ref a] H Q E) :
    wpAny (model X.prog X.w) X.A (getAttr (.ref a) f b) (EP X pins σ Q) X.xe s := by
  obtain ⟨sl, od, _, J, _⟩ := SlX.slt_inst I h
  obtain ⟨rest, hrec⟩ := rc
  have I1 : Inv X pins σ H { s with toks := s.toks + 1 } := I.tok (s.toks + 1)
  refine PySem.W.get_bind I.kIn J (PySem.W.plainGet_of (S.get f)).1 (PySem.W.findObj_data S.ic at_ get tk) (PySem.W.plainGet_of (S.get f)).2 (wpAny_call (PySem.W.prop_get (s := { s with toks := s.toks + 1 }) I.kIn hrec ?_))
  refine codeAny_mono (F.run X.A.in1 X.stack { s with toks := s.toks + 1 } H ⟨[.ref a], []⟩ [.ref a] [.ref a] Q E hr I1.env0.in1 (hbd { s with toks := s.toks + 1 } [.ref a] I1.kIn rfl) (.cons rfl .nil) q) fun r s' hq => ?_
  cases r with
  | error e => exact (show False from hq).elim
  | ok fl =>
    cases fl with
    | ret u =>
      obtain ⟨v, H', I2, rv, q⟩ := I1.after hq
      exact wpAny_of_eq (PySem.W.handedOut_of (handed_of rv)) ⟨v, H', I2, rv, q⟩
    | next => exact False.elim hq
    | brk => exact False.elim hq
    | cont => exact False.elim hq
end
end VL
end
section
set_option Elab.async false
set_option linter.all false
set_option maxRecDepth 100000
set_option maxHeartbeats 2000000
/-! VL30: dicts read: get, [], keys, values, items. -/
namespace VL
open PySem PySem.Spec L2
open PyProof.Rows hiding St
theorem in1_units (A : Around) : A.in1.units ≤ A.units + 8 := by
  have : A.in1.units = A.units + 1 := rfl
  omega
section
variable {X : Cx} {pins : List (Addr × Obj)} {σ : L2.St} {H : Hp} {s : Shared} {C : Ctx} {F : Addr → Prop}
theorem dn_get (I : Inv X pins σ H s) {a : Addr} {o : Obj} (h : H a = some (DN a o)) : s.heap.get? a = some o := (I.hok a _ h).1
mutual
theorem Rep.isN (I : Inv X pins σ H s) : ∀ {d : D} {v : V} {k : NestedKey} {u : Value}, Rep X.K C F H d v → D.toN d = some k → RelV v u → NestedIs s.heap k u
  | _, _, _, _, .non, e, r => by simp only [D.toN, Option.some.injEq] at e; subst e; cases r; exact .none
  | _, _, _, _, .bl b, e, r => by simp only [D.toN, Option.some.injEq] at e; subst e; cases r; exact .bool rfl
  | _, _, _, _, .int i, e, r => by simp only [D.toN, Option.some.injEq] at e; subst e; obtain ⟨t, rfl⟩ := r; exact .int i t
  | _, _, _, _, .str x, e, r => by simp only [D.toN, Option.some.injEq] at e; subst e; obtain ⟨t, rfl⟩ := r; exact .text x t
  | _, _, _, _, .tup h rs, e, r => by
    simp only [D.toN, Option.map_eq_some_iff] at e
    obtain ⟨ks, e, rfl⟩ := e
    cases r
    obtain ⟨its, rv, ⟨o, ho, hc, n, hd⟩, hz⟩ := I.tuple h
    exact .tup ho hc hd (by simpa using RepL.isNs I rs e rv)
  | _, _, _, _, .tupx _ _ _, e, _ => by simp [D.toN] at e
  | _, _, _, _, .lst _ _, e, _ => by simp [D.toN] at e
  | _, _, _, _, .dic _ _ _ _ _, e, _ => by simp [D.toN] at e
  | _, _, _, _, .obj _ _ _ _ _, e, _ => by simp [D.toN] at e
  | _, _, _, _, .raw _ _ _, e, _ => by simp [D.toN] at e
  | _, _, _, _, .fn _, e, _ => by simp [D.toN] at e
  | _, _, _, _, .exc _ _ _ _ _, e, _ => by simp [D.toN] at e
theorem RepL.isNs (I : Inv X pins σ H s) : ∀ {ds : List D} {vs : List V} {ks : List NestedKey} {us : List Value}, RepL X.K C F H ds vs → D.toNs ds = some ks → Vals vs us → NestedAll s.heap ks us
  | _, _, _, _, .nil, e, r => by simp only [D.toNs, Option.some.injEq] at e; subst e; cases r; exact .nil
  | _, _, _, _, .cons p t, e, r => by
    simp only [D.toNs] at e
    obtain ⟨k, e1, e2⟩ := bind_some e
    simp only [Option.map_eq_some_iff] at e2
    obtain ⟨ks, e2, rfl⟩ := e2
    cases r with
    | cons r1 r2 => exact .cons (Rep.isN I p e1 r1) (RepL.isNs I t e2 r2)
end
def isTupD : D → Bool
  | .tup _ => true
  | _ => false
theorem isTup_some {d : D} (h : isTupD d = true) : ∃ xs, d = .tup xs := by
  cases d with
  | tup xs => exact ⟨xs, rfl⟩
  | _ => cases h
abbrev KP : (NestedKey × V × V) → (NestedKey × Value × Value) → Prop := fun p q => p.1 = q.1 ∧ RelV p.2.1 q.2.1 ∧ RelV p.2.2 q.2.2
theorem dn_split (I : Inv X pins σ H s) : ∀ {dk : List D} {xs : List (NestedKey × V × V)} {us : List (NestedKey × Value × Value)}, RepL X.K C F H dk (xs.map (·.2.1)) → D.toNs dk = some (xs.map (·.1)) → dk.all isTupD = true → Paired KP xs us →
    ∃ zs : List (NestedKey × Addr × Value), us = zs.map (fun z => (z.1, Value.ref z.2.1, z.2.2)) ∧ (∀ z ∈ zs, NestedIs s.heap z.1 (.ref z.2.1)) ∧ Paired (fun p q => p.1 = q.1 ∧ p.2.1 = V.ref q.2.1 ∧ RelV p.2.2 q.2.2) xs zs
  | _, [], [], _, _, _, .nil => ⟨[], rfl, (fun z hz => nomatch hz), .nil⟩
  | _, x :: xs, y :: us, r, e, ht, .cons p t => by
    cases r with
    | @cons d ds v vs r1 r2 =>
      simp only [D.toNs] at e
      obtain ⟨k, e1, e2⟩ := bind_some e
      simp only [Option.map_eq_some_iff] at e2
      obtain ⟨ks, e2, e3⟩ := e2
      rw [List.map_cons] at e3
      injection e3 with e3 e4
      subst e3 e4
      rw [List.all_cons, Bool.and_eq_true] at ht
      obtain ⟨zs, h1, h2, h3⟩ := dn_split I r2 e2 ht.2 t
      obtain ⟨ys, rfl⟩ := isTup_some ht.1
      obtain ⟨a, ws, ea, _⟩ := r1.tupI
      obtain ⟨p1, p2, p3⟩ := p
      have n := Rep.isN I r1 e1 p2
      replace ea : x.2.1 = V.ref a := ea
      rw [ea] at p2
      have e5 : y.2.1 = Value.ref a := p2
      refine ⟨(x.1, a, y.2.2) :: zs, ?_, fun z hz => ?_, .cons ⟨rfl, ea, p3⟩ h3⟩
      · rw [List.map_cons, ← h1]
        obtain ⟨y1, y2, y3⟩ := y
        simp only at e5 p1
        subst e5
        rw [← p1]
      · rcases List.mem_cons.mp hz with rfl | hz
        · rw [e5] at n; exact n
        · exact h2 z hz
theorem pair_keys : ∀ {xs : List (NestedKey × V × V)} {zs : List (NestedKey × Addr × Value)}, Paired (fun p q => p.1 = q.1 ∧ p.2.1 = V.ref q.2.1 ∧ RelV p.2.2 q.2.2) xs zs → xs.map (·.1) = zs.map (·.1)
  | [], [], .nil => rfl
  | x :: xs, z :: zs, .cons p t => by rw [List.map_cons, List.map_cons, p.1, pair_keys t]
theorem dn_low (I : Inv X pins σ H s) {a : Addr} {o : Obj} {xs : List (NestedKey × V × V)} {dk : List D} (l : H a = some (DN a o)) (g : DNo X.w a o xs) (rk : RepL X.K C F H dk (xs.map (·.2.1))) (e : D.toNs dk = some (xs.map (·.1))) (ht : dk.all isTupD = true) (hd : (xs.map (·.1)).all (fun k => decide (k.depth ≤ 8)) = true) :
    ∃ zs : List (NestedKey × Addr × Value), Paired (fun p q => p.1 = q.1 ∧ p.2.1 = V.ref q.2.1 ∧ RelV p.2.2 q.2.2) xs zs ∧ s.heap.DictOfH (nestedKind X.prog X.w) a zs := by
  obtain ⟨h1, h2, us, h3, h4, es, ep, h5, h6, h7⟩ := g
  obtain ⟨zs, rfl, n, p⟩ := dn_split I rk e ht h3
  refine ⟨zs, p, o, es, ep, dn_get I l, h4, h5, ?_, fun z hz => ⟨n z hz, ?_⟩, ?_⟩
  · rw [h6, List.map_map]; rfl
  · rw [pair_keys p] at hd
    exact of_decide_eq_true (List.all_eq_true.mp hd z.1 (List.mem_map_of_mem hz))
  · rw [List.map_map] at h7; exact h7
/-- what stands with a key -/
def lookN : List NestedKey → List D → NestedKey → Option D
  | k :: ks, d :: ds, k0 => if NestedKey.beq k k0 = true then some d else lookN ks ds k0
  | _, _, _ => none
def LookOk (K : PySem.W.Frag) (C : Ctx) (F : Addr → Prop) (H : Hp) (zs : List (NestedKey × Addr × Value)) (k : NestedKey) : Option D → Prop
  | none => valueAt (pairsH zs) k = none
  | some d => ∃ v u, valueAt (pairsH zs) k = some u ∧ RelV v u ∧ Rep K C F H d v
theorem look_ok {k0 : NestedKey} : ∀ {xs : List (NestedKey × V × V)} {zs : List (NestedKey × Addr × Value)} {dv : List D}, RepL X.K C F H dv (xs.map (·.2.2)) → Paired (fun p q => p.1 = q.1 ∧ p.2.1 = V.ref q.2.1 ∧ RelV p.2.2 q.2.2) xs zs →
    LookOk X.K C F H zs k0 (lookN (xs.map (·.1)) dv k0)
  | [], _, _, .nil, .nil => rfl
  | x :: xs, z :: zs, _, r, .cons p t => by
    cases r with
    | @cons d ds v vs r1 r2 =>
      have ih := look_ok (k0 := k0) r2 t
      obtain ⟨p1, p2, p3⟩ := p
      have e0 : valueAt (pairsH (z :: zs)) k0 = if z.1 = k0 then some z.2.2 else valueAt (pairsH zs) k0 := by
        unfold valueAt pairsH
        rw [List.map_cons, List.find?_cons]
        by_cases h : z.1 = k0
        · rw [if_pos h]; simp [h]
        · rw [if_neg h]; simp [h]
      rw [List.map_cons]
      unfold lookN
      rw [p1, ← NestedKey.decide_eq]
      by_cases h : z.1 = k0
      · rw [if_pos (by simpa using h)]
        exact ⟨x.2.2, z.2.2, by rw [e0, if_pos h], p3, r1⟩
      · rw [if_neg (by simpa using h)]
        rw [if_neg h] at e0
        unfold LookOk at ih ⊢
        rw [e0]
        exact ih
end
/-- keys fit for lookup -/
def fitN (dk : List D) : Option (List NestedKey) := if dk.all isTupD = true then (D.toNs dk).bind fun ks => if ks.all (fun k => decide (k.depth ≤ 8)) = true then some ks else none else none
def fit1 (d : D) : Option NestedKey := if isTupD d = true then (D.toN d).bind fun k => if k.depth ≤ 8 then some k else none else none
theorem fitN_some {dk : List D} {ks : List NestedKey} (h : fitN dk = some ks) : dk.all isTupD = true ∧ D.toNs dk = some ks ∧ ks.all (fun k => decide (k.depth ≤ 8)) = true := by
  unfold fitN at h
  split at h
  · rename_i h1
    obtain ⟨ks', e, h⟩ := bind_some h
    split at h
    · cases h; exact ⟨h1, e, by assumption⟩
    · cases h
  · cases h
theorem fit1_some {d : D} {k : NestedKey} (h : fit1 d = some k) : isTupD d = true ∧ D.toN d = some k ∧ k.depth ≤ 8 := by
  unfold fit1 at h
  split at h
  · rename_i h1
    obtain ⟨ks', e, h⟩ := bind_some h
    split at h
    · cases h; exact ⟨h1, e, by assumption⟩
    · cases h
  · cases h
def atD (d key : D) : Option (Option D) := match d with
  | .dic dk dv => (fitN dk).bind fun ks => (fit1 key).map fun k => lookN ks dv k
  | _ => none
/-- d.get(key, x) -/
def getD3 (d key x : D) : Option D := (atD d key).map fun r => r.getD x
/-- d[key] -/
def getD2 (d key : D) : Option D := (atD d key).bind id
theorem atD_ok {X : Cx} {pins : List (Addr × Obj)} {σ : L2.St} {H : Hp} {s : Shared} {C : Ctx} {F : Addr → Prop} {d key : D} {r : Option D} {v kv : V} {ku : Value} (I : Inv X pins σ H s) (hw : C.w = X.w) (rd : Rep X.K C F H d v) (rk : Rep X.K C F H key kv) (ru : RelV kv ku) (e : atD d key = some r) :
    ∃ a b zs k, v = .ref a ∧ ku = .ref b ∧ (a == sysModules) = false ∧ s.heap.DictOfH (nestedKind X.prog X.w) a zs ∧ (nestedKind X.prog X.w).is s.heap k b ∧ LookOk X.K C F H zs k r := by
  unfold atD at e
  split at e
  · rename_i dk dv
    obtain ⟨ks, e1, e⟩ := bind_some e
    simp only [Option.map_eq_some_iff] at e
    obtain ⟨k, e2, rfl⟩ := e
    obtain ⟨f1, f2, f3⟩ := fitN_some e1
    obtain ⟨f4, f5, f6⟩ := fit1_some e2
    obtain ⟨a, o, xs, rfl, l, g, h1, h2, h3⟩ := rd.dicI
    rw [f2] at h1
    cases h1
    rw [hw] at g
    obtain ⟨zs, p, hz⟩ := dn_low I l g h2 f2 f1 f3
    obtain ⟨ys, rfl⟩ := isTup_some f4
    have n := rk.isN I f5 ru
    obtain ⟨b, ws, rfl, _⟩ := rk.tupI
    cases ru
    exact ⟨a, b, zs, k, rfl, rfl, g.1, hz, ⟨n, f6⟩, look_ok h3 p⟩
  · cases e
section
variable {X : Cx} {C : Ctx} {o e a b : Expr} {pos apos cpos : Pos} {fa fk fx : Rho → Option D} {tg : Expr}
def q3 (g : D → D → D → Option D) (fa fb fc : Rho → Option D) : Rho → Option D := fun ρ => (fa ρ).bind fun x => (fb ρ).bind fun y => (fc ρ).bind fun z => g x y z
/-- o.get(key, x) -/
theorem qe_get (hw : C.w = X.w) (hu : X.A.units + 64 < cLine) (ho : QE X C o fa) (hk : QE X C a fk) (hx : QE X C b fx) (hbase : attributeBase o "get" X.env (eval o X.env) = eval o X.env := by rfl)
    (hfew : ((backTo cpos (starEach [a, b] X.env)).all (fun x => !x.1) && (backToKw cpos (keywordEach [] X.env)).all (fun x => x.1.isSome)
      && decide ([a, b].length + ([] : List Keyword).length + (if ([] : List Keyword).isEmpty then 0 else 1) < 30)) = true := by rfl)
    (hline : (apos.endLine == cpos.line) = true := by rfl) (hs : starEach [a, b] X.env = (false, eval a X.env) :: starEach [b] X.env := by rfl) (hs2 : starEach [b] X.env = (false, eval b X.env) :: starEach [] X.env := by rfl) (hplain : (backTo cpos (starEach [b] X.env)).any (·.1) = false := by rfl) :
    QE X C (.Call (.Attribute o "get" apos) [a, b] [] cpos) (q3 getD3 fa fk fx) := ⟨fun pins s σ H Q I ⟨A, α, ρ, d, sr, e, q⟩ => by
  obtain ⟨x, e1, e⟩ := bind_some e
  obtain ⟨y, e2, e⟩ := bind_some e
  obtain ⟨z, e3, e⟩ := bind_some e
  unfold getD3 at e
  simp only [Option.map_eq_some_iff] at e
  obtain ⟨r, e5, rfl⟩ := e
  refine wpAny_Call_method_late hbase hfew hline rfl (thn (ho.run pins s σ H (fun v H1 => Gro C H H1 ∧ Rep X.K C (Fb A α) H1 x v) I ⟨A, α, ρ, x, sr, e1, fun v H1 g1 r1 => ⟨g1, r1⟩⟩) fun v s1 ⟨xv, H1, I1, rv, g1, r1⟩ => ?_)
  have ty : ∃ p od, v = .ref p ∧ s1.heap.get? p = some od ∧ od.ExactDict := by
    unfold atD at e5
    split at e5
    · obtain ⟨p, od, xs, rfl, l, g, _⟩ := r1.dicI
      cases rv
      exact ⟨p, od, rfl, dn_get I1 l, g.exact⟩
    · cases e5
  obtain ⟨p, od, rfl, hp, hx1⟩ := ty
  refine ⟨"dict", "dict.get", F.plainAttrs_dict, F.slot_dict_get, F.type_dict_get, ⟨od, hp, hx1.1⟩, fun a' ea => by cases ea; exact ⟨od, hp, hx1.2.1⟩, ?_⟩
  have hA := (pa_cons hk (pa_cons hx pa_nil hs2) hs).run cpos pins s1 σ H1 (fun vs H2 => ∃ kv dv, vs = [kv, dv] ∧ Gro C H1 H2 ∧ Rep X.K C (Fb A α) H2 y kv ∧ Rep X.K C (Fb A α) H2 z dv) I1
    ⟨A, α, ρ, y, sr.grow g1, e2, fun kv H2 g2 r2 => ⟨A, α, ρ, z, (sr.grow g1).grow g2, e3, fun dv H3 g3 r3 => ⟨kv, dv, rfl, g2.trans g3, r2.mv g3.mv, r3⟩⟩⟩
  rw [hs] at hA ⊢
  refine Calls.callWith_builtin (by show (false || (backTo cpos (starEach [b] X.env)).any (·.1)) = false; rw [hplain] <;> rfl) (Calls.evalArgs_plain ?_)
  refine thn hA fun us s2 ⟨vs, H2, I2, r2, kv, dv, ev, g2, rk, rx⟩ => ?_
  subst ev
  obtain ⟨ku, du, rfl, rku, rdu⟩ := vals2 r2
  obtain ⟨a', b', zs, k, ea, rfl, hsy, hz, hki, hl⟩ := atD_ok I2 hw (r1.mv g2.mv) rk rku e5
  subst ea
  cases rv
  refine getOr_keyed (knd := nestedKind X.prog X.w) (show X.A.in1.units + 8 < cLine from Nat.lt_of_le_of_lt (by have := in1_units X.A; omega) hu) hki hsy ⟨zs, hz, rfl⟩ ?_
  cases r with
  | none =>
    rw [show valueAt (pairsH zs) k = none from hl]
    exact ⟨dv, H2, I2.tok _, rdu, q _ _ (g1.trans g2) rx⟩
  | some d =>
    obtain ⟨v', u', h1, h2, h3⟩ := hl
    rw [h1]
    exact ⟨v', H2, I2.tok _, h2, q _ _ (g1.trans g2) h3⟩⟩
/-- o[key], o a dict -/
theorem ix_dn (hw : C.w = X.w) (hu : X.A.units + 64 < cLine) : IxR X (fun x y H Q => ∃ F d key r, Rep X.K C F H d x ∧ Rep X.K C F H key y ∧ getD2 d key = some r ∧ ∀ v, Rep X.K C F H r v → Q v H) := by
  intro value slice pins s σ H x y v u Q I rx ry ⟨F, d, key, r, rd, rk, e, q⟩ hs
  obtain ⟨r', e1, e2⟩ := bind_some e
  cases r' with
  | none => cases e2
  | some r' =>
    cases e2
    obtain ⟨a', b', zs, k, rfl, rfl, hsy, hz, hki, v', u', h1, h2, h3⟩ := atD_ok I hw rd rk ry e1
    cases rx
    exact tail_any hz.typeIs slot_dict_getitem.lookup (getItem_keyed (knd := nestedKind X.prog X.w) (show X.A.in1.units + 8 < cLine from Nat.lt_of_le_of_lt (by have := in1_units X.A; omega) hu) hki ⟨zs, hz, rfl⟩ h1 ⟨v', H, I.tok _, h2, q _ h3⟩) hs
theorem qe_dix (hw : C.w = X.w) (hu : X.A.units + 64 < cLine) (ha : QE X C a fa) (hb : QE X C b fk) (hs : PlainIx b := by intro _ _; rfl) : QE X C (.Subscript a b pos) (q2 getD2 fa fk) :=
  wkE (pe_ix (ix_dn hw hu) ha hb hs) fun σ H Q h => by
    obtain ⟨A, α, ρ, d, s, e, q⟩ := h
    obtain ⟨x, e1, e⟩ := bind_some e
    obtain ⟨y, e2, e⟩ := bind_some e
    refine ⟨A, α, ρ, x, s, e1, fun v H1 g1 r1 => ⟨A, α, ρ, y, s.grow g1, e2, fun u H2 g2 r2 => ?_⟩⟩
    exact ⟨Fb A α, x, y, d, r1.mv g2.mv, r2, e, fun v r3 => q v H2 (g1.trans g2) r3⟩
end
end VL
end
section
set_option Elab.async false
set_option linter.all false
set_option maxRecDepth 100000
set_option maxHeartbeats 2000000
/-! VL31: dicts walked. -/
namespace VL
open PySem PySem.Spec L2
open PyProof.Rows hiding St
section
variable {w : World} {a : Addr} {o : Obj} {xs : List (NestedKey × V × V)}
theorem pair_at {α β : Type} {R : α → β → Prop} : ∀ {l : List α} {m : List β} {i : Nat} {x : α}, Paired R l m → l[i]? = some x → ∃ y, m[i]? = some y ∧ R x y
  | _, _, _, _, .nil, e => by simp at e
  | _, _, 0, _, .cons p _, e => by simp at e; subst e; exact ⟨_, rfl, p⟩
  | _, _, i + 1, x, .cons _ t, e => by
    obtain ⟨y, h1, h2⟩ := pair_at (i := i) (x := x) t (by simpa using e)
    exact ⟨y, by simpa using h1, h2⟩
theorem dno_es (g : DNo w a o xs) : ∃ (es : Array DictEntry) (ep : Nat), o.data = .dict es ep ∧ es.size = xs.length ∧ ∀ (i : Nat) (x : NestedKey × V × V), xs[i]? = some x → ∃ hi : i < es.size, RelV x.2.1 es[i].key ∧ RelV x.2.2 es[i].val := by
  obtain ⟨_, _, us, p, _, es, ep, e, hs, _⟩ := g
  have hl : es.size = xs.length := by rw [← Array.length_toList, hs, List.length_map, p.length]
  refine ⟨es, ep, e, hl, fun i x hx => ?_⟩
  have hi : i < es.size := by rw [hl]; exact (List.getElem?_eq_some_iff.mp hx).1
  obtain ⟨y, h1, h2, h3, h4⟩ := pair_at p hx
  have q : es.toList[i]? = some es[i] := by rw [Array.getElem?_toList, Array.getElem?_eq_getElem hi]
  rw [hs, List.getElem?_map, h1, Option.map_some] at q
  have q' := Option.some.inj q
  exact ⟨hi, by rw [← q']; exact h3, by rw [← q']; exact h4⟩
/-- the keys, the values, the pairs -/
def ItDk (a : Addr) (o : Obj) (xs : List (NestedKey × V × V)) : It := ⟨fun i H => H a = some (DN a o) ∧ i < xs.length, fun i H v H' => H' = H ∧ ∃ x, xs[i]? = some x ∧ v = x.2.1, fun i H => H a = some (DN a o) ∧ xs.length ≤ i⟩
def ItDv (a : Addr) (o : Obj) (xs : List (NestedKey × V × V)) : It := ⟨fun i H => H a = some (DN a o) ∧ i < xs.length, fun i H v H' => H' = H ∧ ∃ x, xs[i]? = some x ∧ v = x.2.2, fun i H => H a = some (DN a o) ∧ xs.length ≤ i⟩
def ItDi (a : Addr) (o : Obj) (xs : List (NestedKey × V × V)) : It := ⟨fun i H => H a = some (DN a o) ∧ i < xs.length, fun i H v H' => ∃ T x, xs[i]? = some x ∧ v = .ref T ∧ H T = none ∧ H' = upd H T (.tup [x.2.1, x.2.2]), fun i H => H a = some (DN a o) ∧ xs.length ≤ i⟩
variable {P : Program} {K : PySem.W.Frag} {tg : Expr} {es : Array DictEntry} {ep : Nat}
theorem turn_dk (it : Addr) (hx : o.ExactDict) (hod : o.data = .dict es ep) (hsz : es.size = xs.length) (hes : ∀ (i : Nat) (x : NestedKey × V × V), xs[i]? = some x → ∃ hi : i < es.size, RelV x.2.1 es[i].key ∧ RelV x.2.2 es[i].val) :
    Turn P w K tg (ItDk a o xs) [it] it (fun i h => h.IsKeyIter it a i es.size ep) where
  mem := by simp
  obj := fun i h st b hb => by
    have e : b = it := by simpa using hb
    subst e
    obtain ⟨oi, e, c, dd⟩ := st
    exact ⟨oi, e, fun v z => by rw [dd] at z; cases z⟩
  keep := fun i h h' st k => st.at fun oi e => k it (by simp) oi e
  item := by
    intro X hP hw hK hc i pins s σ H E I hf st hg
    subst hP hw hK
    obtain ⟨hd, hi⟩ := hg
    obtain ⟨f0, f1, f2, f3, f4, f5⟩ := hf it (by simp)
    obtain ⟨hi2, r1, r2⟩ := hes i _ (List.getElem?_eq_getElem hi)
    refine wpAny_pyNext_keys_item_raw st ⟨o, dn_get I hd, hx, hod⟩ hi2 fun h' st' sb => ?_
    have I1 : Inv X pins σ H { s with heap := h' } := I.turned (t' := s.toks) (fun b ob hb e => (sb.2 b hb).trans e) f0 f1 f3 f4 f5
    obtain ⟨oi, e, c, dd⟩ := id st'
    exact ⟨_, rfl, go_of (s := { s with heap := h' }) e c dd (by decide) ⟨_, H, I1, r1, ⟨rfl, _, List.getElem?_eq_getElem hi, rfl⟩, st', fun b hb => (hf b hb).1⟩⟩
  done := by
    intro X hP hw hK hc i pins s σ H E I hf st hg
    subst hP hw hK
    obtain ⟨hd, hi⟩ := hg
    obtain ⟨f0, f1, f2, f3, f4, f5⟩ := hf it (by simp)
    exact wpAny_pyNext_keys_end_raw (I.ok.hd hc) st ⟨o, dn_get I hd, hx, hod⟩ (by omega) fun h' eb => ⟨rfl, I.turned (t' := s.toks) (fun b ob hb e => eb b ob hb e) f0 f1 f3 f4 f5⟩
  self := fun A i s Q E st h => wpAny_pyIter_keyiter st h
theorem turn_dv (it : Addr) (hx : o.ExactDict) (hod : o.data = .dict es ep) (hsz : es.size = xs.length) (hes : ∀ (i : Nat) (x : NestedKey × V × V), xs[i]? = some x → ∃ hi : i < es.size, RelV x.2.1 es[i].key ∧ RelV x.2.2 es[i].val) :
    Turn P w K tg (ItDv a o xs) [it] it (fun i h => h.IsValIter it a i es.size ep) where
  mem := by simp
  obj := fun i h st b hb => by
    have e : b = it := by simpa using hb
    subst e
    obtain ⟨oi, e, c, dd⟩ := st
    exact ⟨oi, e, fun v z => by rw [dd] at z; cases z⟩
  keep := fun i h h' st k => st.at fun oi e => k it (by simp) oi e
  item := by
    intro X hP hw hK hc i pins s σ H E I hf st hg
    subst hP hw hK
    obtain ⟨hd, hi⟩ := hg
    obtain ⟨f0, f1, f2, f3, f4, f5⟩ := hf it (by simp)
    obtain ⟨hi2, r1, r2⟩ := hes i _ (List.getElem?_eq_getElem hi)
    refine wpAny_pyNext_values_item_raw st ⟨o, dn_get I hd, hx, hod⟩ hi2 fun h' st' sb => ?_
    have I1 : Inv X pins σ H { s with heap := h' } := I.turned (t' := s.toks) (fun b ob hb e => (sb.2 b hb).trans e) f0 f1 f3 f4 f5
    obtain ⟨oi, e, c, dd⟩ := id st'
    exact ⟨_, rfl, go_of (s := { s with heap := h' }) e c dd (by decide) ⟨_, H, I1, r2, ⟨rfl, _, List.getElem?_eq_getElem hi, rfl⟩, st', fun b hb => (hf b hb).1⟩⟩
  done := by
    intro X hP hw hK hc i pins s σ H E I hf st hg
    subst hP hw hK
    obtain ⟨hd, hi⟩ := hg
    obtain ⟨f0, f1, f2, f3, f4, f5⟩ := hf it (by simp)
    exact wpAny_pyNext_values_end_raw (I.ok.hd hc) st ⟨o, dn_get I hd, hx, hod⟩ (by omega) fun h' eb => ⟨rfl, I.turned (t' := s.toks) (fun b ob hb e => eb b ob hb e) f0 f1 f3 f4 f5⟩
  self := fun A i s Q E st h => wpAny_pyIter_valiter st h
theorem turn_di {elts : List Expr} {kk : Nat} {tpos : Pos} (it : Addr) (hx : o.ExactDict) (hod : o.data = .dict es ep) (hsz : es.size = xs.length) (hes : ∀ (i : Nat) (x : NestedKey × V × V), xs[i]? = some x → ∃ hi : i < es.size, RelV x.2.1 es[i].key ∧ RelV x.2.2 es[i].val) :
    Turn P w K (.Tuple elts kk tpos) (ItDi a o xs) [it] it (fun i h => ∃ ok ov, IsItemIter h it a i es.size ep ok ov) where
  mem := by simp
  obj := fun i h st b hb => by
    have e : b = it := by simpa using hb
    subst e
    obtain ⟨ok, ov, e⟩ := st
    exact ⟨_, e, fun v z => nomatch z⟩
  keep := fun i h h' st k => let ⟨ok, ov, e⟩ := st; ⟨ok, ov, k it (by simp) _ e⟩
  item := by
    intro X hP hw hK hc i pins s σ H E I hf st hg
    subst hP hw hK
    obtain ⟨hd, hi⟩ := hg
    obtain ⟨hi2, r1, r2⟩ := hes i _ (List.getElem?_eq_getElem hi)
    obtain ⟨ok, ov, he⟩ := st
    have hlt : it < s.heap.objs.size := Heap.lt_size he
    refine wpAny_pyNext_items_item_raw he ⟨o, dn_get I hd, hx, hod⟩ hi2 fun h' ho hT hz hk => ?_
    refine ⟨_, rfl, wpAny_letOwnedTupleGo_items (s := { s with heap := h' }) ho fun h'' he' sb => ?_⟩
    have hT2 : h''.get? s.heap.objs.size = some { cls := .type "tuple", data := .seq #[es[i].key, es[i].val] } := (sb.2 _ (Nat.ne_of_gt hlt)).trans hT
    have new : ObjOk X.prog X.w (upd H s.heap.objs.size (.tup [xs[i].2.1, xs[i].2.2])) h'' s.heap.objs.size (.tup [xs[i].2.1, xs[i].2.2]) :=
      ⟨by show 2 ≤ sizeLine; decide, [es[i].key, es[i].val], .cons r1 (.cons r2 .nil), ⟨_, hT2, rfl, _, rfl⟩⟩
    have I1 : Inv X pins σ (upd H s.heap.objs.size (.tup [xs[i].2.1, xs[i].2.2])) { s with heap := h'' } :=
      I.turnedNew (t' := s.toks) (ch := [it]) (fun b ob hb e => (sb.2 b (by simpa using hb)).trans (hk b ob (by simpa using hb) e)) hf (Nat.le_refl _) new
    refine ⟨.ref s.heap.objs.size, _, I1, rfl, ⟨_, _, List.getElem?_eq_getElem hi, rfl, I.hok.fresh (Nat.le_refl _), rfl⟩, ⟨_, _, he'⟩, fun b hb => ?_⟩
    have e : b = it := by simpa using hb
    rw [e, upd_ne (Nat.ne_of_lt hlt)]
    exact (hf it (by simp)).1
  done := by
    intro X hP hw hK hc i pins s σ H E I hf st hg
    subst hP hw hK
    obtain ⟨hd, hi⟩ := hg
    obtain ⟨f0, f1, f2, f3, f4, f5⟩ := hf it (by simp)
    obtain ⟨ok, ov, he⟩ := st
    exact wpAny_pyNext_items_end_raw (I.ok.hd hc) he ⟨o, dn_get I hd, hx, hod⟩ (by omega) fun h' eb => ⟨rfl, I.turned (t' := s.toks) (fun b ob hb e => eb b ob hb e) f0 f1 f3 f4 f5⟩
  self := fun A i s Q E st h => let ⟨_, _, e⟩ := st; PySem.W.kcp_self e h
end
/-! ### the rules -/
def iDn (w : World) (f : Addr → Obj → List (NestedKey × V × V) → It) (td : TE) : TI := fun σ H R => td σ H fun x H1 => ∃ a o xs, x = .ref a ∧ H1 a = some (DN a o) ∧ DNo w a o xs ∧ R (f a o xs) H1
section
variable {X : Cx} {C : Ctx} {tg e : Expr} {td : TE} {apos cpos : Pos} {fa : Rho → Option D}
theorem pi_dk (he : PE X e td) : PI X tg e (iDn X.w ItDk td) := by
  refine ⟨fun pins s σ H R I h => ?_⟩
  refine thn (he.run pins s σ H _ I h) fun u s1 ⟨x, H1, I1, rx, a, o, xs, ex, l, g, q⟩ => ?_
  subst ex
  cases rx
  obtain ⟨es, ep, e1, e2, e3⟩ := dno_es g
  exact iter_keys g.1 (dn_get I1 l) g.exact e1 (pi_one (tk := s1.toks) I1 _ (turn_dk _ g.exact e1 e2 e3) ⟨_, Heap.get?_push_size _ rfl, rfl, rfl⟩ q)
theorem pi_dv (he : PE X e td) (hbase : attributeBase e "values" X.env (eval e X.env) = eval e X.env := by rfl) (hline : (apos.endLine == cpos.line) = true := by rfl) : PI X tg (.Call (.Attribute e "values" apos) [] [] cpos) (iDn X.w ItDv td) := by
  refine ⟨fun pins s σ H R I h => ?_⟩
  refine wpAny_Call_method (T := "dict") (id := "dict.values") hbase rfl hline F.plainAttrs_dict F.slot_dict_values F.type_dict_values (thn (he.run pins s σ H _ I h) fun u s1 ⟨x, H1, I1, rx, a, o, xs, ex, l, g, q⟩ => ?_)
  subst ex
  cases rx
  obtain ⟨es, ep, e1, e2, e3⟩ := dno_es g
  have raw : s1.heap.DictRaw a es ep := ⟨o, dn_get I1 l, g.exact, e1⟩
  refine ⟨raw.typeIs, fun a' ea => by cases ea; exact ⟨o, dn_get I1 l, g.exact.2.1⟩, ?_⟩
  have I2 : Inv X pins σ H1 { s1 with heap := s1.heap.push { cls := .type "dict_values", data := .fields #[.ref a] } } := I1.kept (t' := s1.toks) fun b ob q => Heap.get?_push_of_some _ q
  have fin : wpAny (model X.prog X.w) X.A (pyIter (.ref s1.heap.objs.size)) (PIE X pins σ tg R) X.xe { s1 with heap := s1.heap.push { cls := .type "dict_values", data := .fields #[.ref a] } } :=
    wpAny_pyIter_values_raw (d := a) ⟨_, Heap.get?_push_size _ rfl, rfl, rfl⟩ (raw.at fun _ z => Heap.get?_push_of_some _ z) (pi_one (tk := s1.toks) I2 _ (turn_dv _ g.exact e1 e2 e3) ⟨_, Heap.get?_push_size _ rfl, rfl, rfl⟩ q)
  show wpAny _ _ (callWith cpos (.builtin "dict.values") [.ref a] [] []) _ X.xe s1
  exact method_meetsIn F.slot_dict_values F.entry_dict_values rfl (PySem.evalArgs_none ⟨rfl, raw.typeIs, F.args_dict_values_1 _, _, meets_dict_values_raw a g.1, ⟨es, ep, raw⟩, fin⟩)
theorem pi_di {elts : List Expr} {kk : Nat} {tpos : Pos} (he : PE X e td) (hbase : attributeBase e "items" X.env (eval e X.env) = eval e X.env := by rfl) (hline : (apos.endLine == cpos.line) = true := by rfl) :
    PI X (.Tuple elts kk tpos) (.Call (.Attribute e "items" apos) [] [] cpos) (iDn X.w ItDi td) := by
  refine ⟨fun pins s σ H R I h => ?_⟩
  refine wpAny_Call_method (T := "dict") (id := "dict.items") hbase rfl hline F.plainAttrs_dict F.slot_dict_items F.type_dict_items (thn (he.run pins s σ H _ I h) fun u s1 ⟨x, H1, I1, rx, a, o, xs, ex, l, g, q⟩ => ?_)
  subst ex
  cases rx
  obtain ⟨es, ep, e1, e2, e3⟩ := dno_es g
  have raw : s1.heap.DictRaw a es ep := ⟨o, dn_get I1 l, g.exact, e1⟩
  refine ⟨raw.typeIs, fun a' ea => by cases ea; exact ⟨o, dn_get I1 l, g.exact.2.1⟩, ?_⟩
  have I2 : Inv X pins σ H1 { s1 with heap := s1.heap.push { cls := .type "dict_items", data := .fields #[.ref a] } } := I1.kept (t' := s1.toks) fun b ob q => Heap.get?_push_of_some _ q
  have fin : wpAny (model X.prog X.w) X.A (pyIter (.ref s1.heap.objs.size)) (PIE X pins σ (.Tuple elts kk tpos) R) X.xe { s1 with heap := s1.heap.push { cls := .type "dict_items", data := .fields #[.ref a] } } :=
    wpAny_pyIter_items_raw (d := a) ⟨_, Heap.get?_push_size _ rfl, rfl, rfl⟩ (raw.at fun _ z => Heap.get?_push_of_some _ z) (pi_one (tk := s1.toks) I2 _ (turn_di _ g.exact e1 e2 e3) ⟨.none, .none, Heap.get?_push_size _ rfl⟩ q)
  show wpAny _ _ (callWith cpos (.builtin "dict.items") [.ref a] [] []) _ X.xe s1
  exact method_meetsIn F.slot_dict_items F.entry_dict_items rfl (PySem.evalArgs_none ⟨rfl, raw.typeIs, F.args_dict_items_1 _, _, meets_dict_items_raw a g.1, ⟨es, ep, raw⟩, fin⟩)
def keysD : D → Option (List D)
  | .dic dk _ => some dk
  | _ => none
def valsD : D → Option (List D)
  | .dic _ dv => some dv
  | _ => none
def pairsD : D → Option (List D)
  | .dic dk dv => some (List.zipWith (fun k v => .tup [k, v]) dk dv)
  | _ => none
def iD (g : D → Option (List D)) (f : Rho → Option D) : Rho → Option (List D) := fun ρ => (f ρ).bind g
end
section
variable {K : PySem.W.Frag} {C : Ctx} {F : Addr → Prop} {H : Hp} {a : Addr} {o : Obj} {xs : List (NestedKey × V × V)} {dk dv : List D}
theorem itr_dk (l : H a = some (DN a o)) (r : RepL K C F H dk (xs.map (·.2.1))) : ItR K C (ItDk a o xs) F H dk := fun F' H' m => by
  have l' : H' a = some (DN a o) := m.kp _ _ l (.inr trivial)
  have r' := r.mv m
  have hl : dk.length = xs.length := by rw [r.length, List.length_map]
  refine ⟨fun i x e => ?_, fun i e => ⟨l', by rw [← hl]; exact e⟩⟩
  have hi : i < xs.length := by rw [← hl]; exact (List.getElem?_eq_some_iff.mp e).1
  refine ⟨⟨l', hi⟩, fun v H2 y => ?_⟩
  obtain ⟨rfl, x1, h1, rfl⟩ := y
  obtain ⟨v', h2, h3⟩ := r'.get e
  rw [List.getElem?_map, h1] at h2
  cases h2
  exact ⟨Gro.refl, h3⟩
theorem itr_dv (l : H a = some (DN a o)) (r : RepL K C F H dv (xs.map (·.2.2))) : ItR K C (ItDv a o xs) F H dv := fun F' H' m => by
  have l' : H' a = some (DN a o) := m.kp _ _ l (.inr trivial)
  have r' := r.mv m
  have hl : dv.length = xs.length := by rw [r.length, List.length_map]
  refine ⟨fun i x e => ?_, fun i e => ⟨l', by rw [← hl]; exact e⟩⟩
  have hi : i < xs.length := by rw [← hl]; exact (List.getElem?_eq_some_iff.mp e).1
  refine ⟨⟨l', hi⟩, fun v H2 y => ?_⟩
  obtain ⟨rfl, x1, h1, rfl⟩ := y
  obtain ⟨v', h2, h3⟩ := r'.get e
  rw [List.getElem?_map, h1] at h2
  cases h2
  exact ⟨Gro.refl, h3⟩
theorem itr_di (l : H a = some (DN a o)) (r : RepL K C F H dk (xs.map (·.2.1))) (rv : RepL K C F H dv (xs.map (·.2.2))) : ItR K C (ItDi a o xs) F H (List.zipWith (fun k v => .tup [k, v]) dk dv) := fun F' H' m => by
  have l' : H' a = some (DN a o) := m.kp _ _ l (.inr trivial)
  have r' := r.mv m
  have rv' := rv.mv m
  have hl : dk.length = xs.length := by rw [r.length, List.length_map]
  have hlv : dv.length = xs.length := by rw [rv.length, List.length_map]
  refine ⟨fun i x e => ?_, fun i e => ⟨l', by rw [List.length_zipWith] at e; omega⟩⟩
  rw [List.getElem?_zipWith] at e
  cases e1 : dk[i]? with
  | none => rw [e1] at e; cases e
  | some d1 =>
    cases e2 : dv[i]? with
    | none => rw [e1, e2] at e; cases e
    | some d2 =>
      rw [e1, e2] at e
      cases e
      have hi : i < xs.length := by rw [← hl]; exact (List.getElem?_eq_some_iff.mp e1).1
      refine ⟨⟨l', hi⟩, fun v H2 y => ?_⟩
      obtain ⟨T, x1, h1, rfl, hT, rfl⟩ := y
      obtain ⟨v1, h2, h3⟩ := r'.get e1
      rw [List.getElem?_map, h1] at h2
      cases h2
      obtain ⟨v2, h2, h4⟩ := rv'.get e2
      rw [List.getElem?_map, h1] at h2
      cases h2
      exact ⟨Gro.new hT, repNewT hT (.cons h3 (.cons h4 .nil))⟩
end
section
variable {X : Cx} {C : Ctx} {tg e : Expr} {apos cpos : Pos} {fa : Rho → Option D}
/-- for k in d -/
theorem qi_dk (hw : C.w = X.w) (he : QE X C e fa) : QI X C tg e (iD keysD fa) :=
  wkI (pi_dk he) fun σ H Q ⟨A, α, ρ, xs, s, e, q⟩ => by
    obtain ⟨d, e1, e2⟩ := bind_some e
    cases d with
    | dic dk dv =>
      cases e2
      refine ⟨A, α, ρ, _, s, e1, fun v H1 g1 r1 => ?_⟩
      obtain ⟨a, o, ys, rfl, l, g, _, rk, rv⟩ := r1.dicI
      rw [hw] at g
      exact ⟨a, o, ys, rfl, l, g, q _ H1 g1 (itr_dk l rk)⟩
    | _ => cases e2
/-- for v in d.values() -/
theorem qi_dv (hw : C.w = X.w) (he : QE X C e fa) (hbase : attributeBase e "values" X.env (eval e X.env) = eval e X.env := by rfl) (hline : (apos.endLine == cpos.line) = true := by rfl) : QI X C tg (.Call (.Attribute e "values" apos) [] [] cpos) (iD valsD fa) :=
  wkI (pi_dv he hbase hline) fun σ H Q ⟨A, α, ρ, xs, s, e, q⟩ => by
    obtain ⟨d, e1, e2⟩ := bind_some e
    cases d with
    | dic dk dv =>
      cases e2
      refine ⟨A, α, ρ, _, s, e1, fun v H1 g1 r1 => ?_⟩
      obtain ⟨a, o, ys, rfl, l, g, _, rk, rv⟩ := r1.dicI
      rw [hw] at g
      exact ⟨a, o, ys, rfl, l, g, q _ H1 g1 (itr_dv l rv)⟩
    | _ => cases e2
/-- for k, v in d.items() -/
theorem qi_di {elts : List Expr} {kk : Nat} {tpos : Pos} (hw : C.w = X.w) (he : QE X C e fa) (hbase : attributeBase e "items" X.env (eval e X.env) = eval e X.env := by rfl) (hline : (apos.endLine == cpos.line) = true := by rfl) :
    QI X C (.Tuple elts kk tpos) (.Call (.Attribute e "items" apos) [] [] cpos) (iD pairsD fa) :=
  wkI (pi_di he hbase hline) fun σ H Q ⟨A, α, ρ, xs, s, e, q⟩ => by
    obtain ⟨d, e1, e2⟩ := bind_some e
    cases d with
    | dic dk dv =>
      cases e2
      refine ⟨A, α, ρ, _, s, e1, fun v H1 g1 r1 => ?_⟩
      obtain ⟨a, o, ys, rfl, l, g, _, rk, rv⟩ := r1.dicI
      rw [hw] at g
      exact ⟨a, o, ys, rfl, l, g, q _ H1 g1 (itr_di l rk rv)⟩
    | _ => cases e2
end
end VL
end
section
set_option Elab.async false
set_option linter.all false
set_option maxRecDepth 100000
set_option maxHeartbeats 2000000
/-! VL32: own dicts: {}, x[k] = v; taken as data. -/
namespace VL
open PySem PySem.Spec L2
open PyProof.Rows hiding St
def nkey : Key → NestedKey
  | .inl i => .num i
  | .inr x => .text x
theorem nkey_inj : ∀ {a b : Key}, nkey a = nkey b → a = b
  | .inl _, .inl _, h => by injection h with h; rw [h]
  | .inr _, .inr _, h => by injection h with h; rw [h]
  | .inl _, .inr _, h => by cases h
  | .inr _, .inl _, h => by cases h
theorem nkeys_inj : ∀ {a b : List Key}, a.map nkey = b.map nkey → a = b
  | [], [], _ => rfl
  | [], _ :: _, h => by cases h
  | _ :: _, [], h => by cases h
  | x :: a, y :: b, h => by
    rw [List.map_cons, List.map_cons] at h
    injection h with h1 h2
    rw [nkey_inj h1, nkeys_inj h2]
theorem nkey_toN : ∀ k : Key, D.toN (keyD k) = some (nkey k)
  | .inl _ => by simp only [keyD, D.toN, nkey]
  | .inr _ => by simp only [keyD, D.toN, nkey]
theorem nkeys_toN : ∀ ks : List Key, D.toNs (ks.map keyD) = some (ks.map nkey)
  | [] => rfl
  | k :: ks => by
    rw [List.map_cons, List.map_cons, D.toNs, nkey_toN, nkeys_toN ks]
    rfl
theorem hash_nkey (w : World) : ∀ k : Key, (nkey k).hash w = keyH w k
  | .inl _ => by simp only [nkey, NestedKey.hash, keyH]
  | .inr _ => by simp only [nkey, NestedKey.hash, keyH]
theorem hashes_nkey (w : World) : ∀ ks : List Key, NestedKey.hashes w (ks.map nkey) = ks.map (keyH w)
  | [] => by simp only [List.map_nil, NestedKey.hashes]
  | k :: ks => by rw [List.map_cons, List.map_cons, NestedKey.hashes, hash_nkey, hashes_nkey w ks]
theorem hash_tup (P : Program) (w : World) (ks : List Key) : (NestedKey.tup (ks.map nkey)).hash w = (tupleKind (mixKind P w)).hash ks := by
  rw [NestedKey.hash, hashes_nkey]
  rfl
section
variable {K : PySem.W.Frag} {C : Ctx} {F : Addr → Prop} {H : Hp}
theorem rep_keyD : ∀ k : Key, Rep K C F H (keyD k) (kV k)
  | .inl i => .int i
  | .inr x => .str x
theorem repL_keyD : ∀ ks : List Key, RepL K C F H (ks.map keyD) (ks.map kV)
  | [] => .nil
  | k :: ks => .cons (rep_keyD k) (repL_keyD ks)
def dicW (es : List (List Key × D)) : D := .dic (es.map fun p => .tup (p.1.map keyD)) (es.map (·.2))
abbrev fKey : (List Key × Addr × Value) → (NestedKey × Value × Value) := fun x => (.tup (x.1.map nkey), .ref x.2.1, x.2.2)
theorem kt_split : ∀ {kvs : List (List Key × V)} {xs : List (List Key × Addr × Value)}, Paired (fun (p : List Key × V) (q : List Key × Addr × Value) => p.1 = q.1 ∧ H q.2.1 = some (.tup (p.1.map kV)) ∧ RelV p.2 q.2.2) kvs xs →
    ∃ ys : List (NestedKey × V × V), ys.map (·.1) = kvs.map (fun p => NestedKey.tup (p.1.map nkey)) ∧ ys.map (·.2.2) = kvs.map (·.2) ∧ RepL K C F H (kvs.map fun p => D.tup (p.1.map keyD)) (ys.map (·.2.1)) ∧ Paired KP ys (xs.map fKey)
  | [], [], .nil => ⟨[], rfl, rfl, .nil, .nil⟩
  | p :: kvs, q :: xs, .cons h t => by
    obtain ⟨ys, h1, h2, h3, h4⟩ := kt_split t
    obtain ⟨e1, e2, e3⟩ := h
    refine ⟨(.tup (p.1.map nkey), .ref q.2.1, p.2) :: ys, by rw [List.map_cons, List.map_cons, h1], by rw [List.map_cons, List.map_cons, h2], .cons (.tup (.inl (.inl e2)) (repL_keyD p.1)) h3, .cons ⟨by rw [e1], rfl, e3⟩ h4⟩
end
theorem fst_map {α β γ δ : Type} (f : α → δ) : ∀ {l : List (α × β)} {m : List (α × γ)}, l.map (·.1) = m.map (·.1) → l.map (fun p => f p.1) = m.map (fun p => f p.1)
  | [], [], _ => rfl
  | [], _ :: _, h => by cases h
  | _ :: _, [], h => by cases h
  | x :: l, y :: m, h => by
    rw [List.map_cons, List.map_cons] at h
    injection h with h1 h2
    rw [List.map_cons, List.map_cons, h1, fst_map f h2]
section
variable {X : Cx} {C : Ctx} {W : WX} {pins : List (Addr × Obj)} {σ : L2.St} {H H' : Hp} {s : Shared} {A : Addr → Prop} {α : Nat → Option Addr} {ρ : Rho}
theorem tabs_new {T : List (Addr × Str)} {a : Addr} {kvs : List (List Key × V)} {u : HO} (t : LamX.Tabs T H) (h : H a = some (.dT kvs)) : LamX.Tabs T (upd H a u) := fun p hp => by
  obtain ⟨ps, e1, e2, e3⟩ := t p hp
  have k : ∀ b o, H b = some o → (∀ zs, o ≠ .dT zs) → upd H a u b = some o := fun b o e n => by
    rw [upd_ne (fun z => by rw [z, h] at e; exact n kvs (Option.some.inj e).symm)]
    exact e
  refine ⟨ps, k _ _ e1 (fun _ z => nomatch z), e2, fun pos cv hc => ?_⟩
  obtain ⟨c, q1, q2⟩ := e3 pos cv hc
  exact ⟨c, q1, k _ _ q2 (fun _ z => nomatch z)⟩
theorem lockW (I : Inv X pins σ H s) (hw : C.w = X.w) (sr : SR X.K C A α ρ σ H) {i : Nat} {es : List (List Key × D)} (hi0 : i ≠ 0) (h : ρ[i]? = some (.w es)) :
    ∃ a H', σ[i]? = some (some (.ref a)) ∧ Inv X pins σ H' s ∧ SR X.K C A (off α i) (ρ.set i (.v (dicW es))) σ H' ∧ Stp C α H (off α i) H' ∧ Rep X.K C (Fb A (off α i)) H' (dicW es) (.ref a) := by
  obtain ⟨a, kvs, e1, e2, e3, e4, r⟩ := sr.sl i _ h
  have hil : i < ρ.length := (List.getElem?_eq_some_iff.mp h).1
  obtain ⟨z, y, xs, rel, o, en, ep, h1, h2, h3, h4, h5⟩ := (show ObjOk X.prog X.w H s.heap a (.dT kvs) from I.hok a _ e3)
  have fa : Fb A α a := .inr ⟨i, e1⟩
  have I' : Inv X pins σ (upd H a (DN a o)) { s with heap := s.heap, toks := s.toks } := I.write (x := a) (e := a) (o := DN a o) (t' := s.toks) (h' := s.heap) (by rw [e3]; trivial) (.inl rfl) (fun b u _ q => q) ⟨o, h1⟩ (dn_ok h1)
  have ne : ∀ b u, H b = some u → ((¬ Fb A α b ∧ NT u) ∨ Fix u) → b ≠ a := fun b u e n zz => by
    rw [zz] at e n
    rcases n with n | n
    · exact n.1 fa
    · rw [e3] at e; cases e; exact n
  have m : Mv (Fb A α) (Fb A (off α i)) H (upd H a (DN a o)) := ⟨fun b u e n => by rw [upd_ne (ne b u e n)]; exact e, fun b u _ _ n zz => n (fb_off b zz)⟩
  obtain ⟨ys, y1, y2, y3, y4⟩ := kt_split (K := X.K) (C := C) (F := Fb A α) rel
  have rep : Rep X.K C (Fb A (off α i)) (upd H a (DN a o)) (dicW es) (.ref a) := by
    have lz : ys.length = kvs.length := by have := congrArg List.length y2; rwa [List.length_map, List.length_map] at this
    refine .dic (o := o) (xs := ys) upd_same ⟨y, by rw [lz]; exact z, xs.map fKey, y4, h2, en, ep, h3, ?_, ?_⟩ ?_ ?_ ?_
    · rw [h4, List.map_map]
      refine List.map_congr_left fun x _ => ?_
      show (⟨_, _, _⟩ : DictEntry) = ⟨_, _, _⟩
      rw [hw, hash_tup X.prog X.w]
    · rw [List.map_map]
      have e : (Prod.fst ∘ fKey : (List Key × Addr × Value) → NestedKey) = (fun k => NestedKey.tup (k.map nkey)) ∘ (·.1) := rfl
      rw [show (xs.map ((fun x => x.1) ∘ fKey)) = (xs.map (·.1)).map (fun k => NestedKey.tup (k.map nkey)) by rw [List.map_map]; rfl]
      exact List.Pairwise.map _ (fun p q hpq zz => hpq (nkeys_inj (by injection zz))) h5
    · rw [fst_map (fun k : List Key => D.tup (k.map keyD)) e4, y1]
      clear y1 y2 y3 y4 rel h4 h5 r e3 I' m ne e4 z lz
      induction kvs with
      | nil => rfl
      | cons p kvs ih =>
        rw [List.map_cons, List.map_cons, D.toNs, ih]
        simp only [D.toN, nkeys_toN, Option.map_some, Option.bind_some]
    · rw [fst_map (fun k : List Key => D.tup (k.map keyD)) e4]
      exact y3.mv m
    · rw [y2]; exact r.mv m
  refine ⟨a, _, e2, I', ⟨by rw [List.length_set, sr.len], fun j k b q1 q2 => sr.inj j k b (off_some q1).1 (off_some q2).1, fun j hj => ?_, fun j u e => ?_, fun b hb => ?_, fun j b q => sr.na j b (off_some q).1, tabs_new sr.tabs e3⟩, ⟨fun b u e n => ?_, fun t => tabs_new t e3, fun b e => ?_, fun j b q => .inl ⟨j, (off_some q).1⟩, fun b q => ?_⟩, rep⟩
  · rw [List.length_set] at hj
    rw [off_ne (by omega)]
    exact sr.out j hj
  · by_cases hj : i = j
    · subst hj
      rw [List.getElem?_set_self hil] at e
      cases e
      exact ⟨off_self, _, e2, rep⟩
    · rw [List.getElem?_set_ne hj] at e
      rw [off_ne (Ne.symm hj)]
      have q := sr.sl j u e
      cases u with
      | no => exact q
      | v d => obtain ⟨e1', v, e2', r'⟩ := q; exact ⟨e1', v, e2', r'.mv m⟩
      | o ds' =>
        obtain ⟨a', vs', e1', e2', e3', r'⟩ := q
        exact ⟨a', vs', e1', e2', by rw [upd_ne (fun zz => hj (sr.inj i j a e1 (by rw [← zz]; exact e1')))]; exact e3', r'.mv m⟩
      | w es' =>
        obtain ⟨a', vs', e1', e2', e3', e4', r'⟩ := q
        exact ⟨a', vs', e1', e2', by rw [upd_ne (fun zz => hj (sr.inj i j a e1 (by rw [← zz]; exact e1')))]; exact e3', e4', r'.mv m⟩
  · rw [upd_ne (fun zz => sr.na i a e1 (by rw [← zz]; exact hb))]
    exact sr.dom b hb
  · have nb : b ≠ a := fun zz => by
      rcases n with ⟨n, _⟩ | n
      · exact n ⟨i, by rw [zz]; exact e1⟩
      · rw [zz, e3] at e; cases e; exact n
    rw [upd_ne nb]
    exact e
  · by_cases hb : b = a
    · rw [hb, upd_same] at e; cases e
    · rw [upd_ne hb] at e; exact e
  · rw [off_ne (Ne.symm hi0)]
    exact q
/-- an own dict read: it is data from now on -/
def vLock (i : Nat) : Rho → Res D := fun ρ => match ρ[i]? with
  | some (.w es) => if i = 0 then .bad else .ok (dicW es) (ρ.set i (.v (dicW es)))
  | _ => .bad
theorem ve_lockW (hw : C.w = X.w) {i : Nat} {x : Str} {p : Pos} (hN : X.N[i]? = some x) (hv : Vis X.env.scope x) (hd : (x == ("__debug__" : Str)) = false := by decide) (hcd : (x == ("__classdict__" : Str)) = false := by decide) :
    VE X C W (.Name x p) (vLock i) := ⟨fun pins s σ H Q I ⟨A, α, ρ, sr, q⟩ => by
  unfold vLock at q
  split at q
  · rename_i es e
    by_cases h0 : i = 0
    · rw [if_pos h0] at q; exact q.elim
    · rw [if_neg h0] at q
      obtain ⟨a, kvs, e1, e2, _⟩ := sr.sl i _ e
      refine thn ((pe_var (i := i) hN hv hd hcd).run pins s σ H (fun v H1 => v = .ref a ∧ H1 = H) I ⟨.ref a, e2, rfl, rfl⟩) fun u s1 ⟨v, H1, I1, rv, ev, eH⟩ => ?_
      subst ev eH
      obtain ⟨a', H', e3, I2, s2, t2, r2⟩ := lockW I1 hw sr h0 e
      rw [e2] at e3
      cases e3
      exact ⟨_, H', I2, rv, q _ _ _ s2 t2 r2⟩
  · exact q.elim⟩
/-- x = {} -/
def sNewW (i : Nat) : Rho → SRes := fun ρ => if settable ρ i = true then .nx (ρ.set i (.w [])) else .bad
theorem SR.takeW {p : Addr} (s : SR X.K C (Ad A p) α ρ σ H) {i : Nat} (hi : i < ρ.length) (nA : ¬ A p) (l : H p = some (.dT [])) : SR X.K C A (on α i p) (ρ.set i (.w [])) (σ.set i (some (.ref p))) H := by
  have nO : ∀ j, α j ≠ some p := fun j e => s.na j p e (.inr rfl)
  have fw : ∀ b, Fb A (on α i p) b → Fb (Ad A p) α b := fun b z => by
    rcases z with z | ⟨j, z⟩
    · exact .inl (.inl z)
    · rcases on_some z with ⟨_, z⟩ | ⟨_, z⟩
      · exact .inl (.inr z)
      · exact .inr ⟨j, z⟩
  refine ⟨by rw [List.length_set, List.length_set, s.len], fun j k b h1 h2 => ?_, fun j h => ?_, fun j u e => ?_, fun b h => s.dom b (.inl h), fun j b h => ?_, s.tabs⟩
  · rcases on_some h1 with ⟨z1, e1⟩ | ⟨z1, e1⟩ <;> rcases on_some h2 with ⟨z2, e2⟩ | ⟨z2, e2⟩
    · rw [z1, z2]
    · rw [e1] at e2; exact absurd e2 (nO k)
    · rw [e2] at e1; exact absurd e1 (nO j)
    · exact s.inj j k b e1 e2
  · rw [List.length_set] at h
    have hj : j ≠ i := by omega
    show (if j = i then some p else α j) = none
    rw [if_neg hj]
    exact s.out j h
  · by_cases hj : i = j
    · subst hj
      rw [List.getElem?_set_self hi] at e
      cases e
      rw [List.getElem?_set_self (by rw [← s.len]; exact hi)]
      exact ⟨p, [], if_pos rfl, rfl, l, rfl, .nil⟩
    · rw [List.getElem?_set_ne hj] at e
      rw [List.getElem?_set_ne hj, show on α i p j = α j from if_neg (Ne.symm hj)]
      have q := s.sl j u e
      cases u with
      | no => exact q
      | v d => obtain ⟨e1, v, e2, r⟩ := q; exact ⟨e1, v, e2, r.mv (Mv.weak fw)⟩
      | o ds' => obtain ⟨a', vs', e1, e2, e3, r⟩ := q; exact ⟨a', vs', e1, e2, e3, r.mv (Mv.weak fw)⟩
      | w es => obtain ⟨a', vs', e1, e2, e3, e4, r⟩ := q; exact ⟨a', vs', e1, e2, e3, e4, r.mv (Mv.weak fw)⟩
  · rcases on_some h with ⟨_, rfl⟩ | ⟨_, h⟩
    · exact nA
    · exact fun z => s.na j b h (.inl z)
theorem qs_newW {i : Nat} {x : Str} {pos pos' dpos : Pos} (hN : X.N.Nodup) (hi : X.N[i]? = some x) (hx : Loc X.env.scope x) (hs : swapsWith (.Dict [] [] dpos) (some (.Name x pos')) pos.line X.env = pure false := by rfl) (hf : X.fn x = true ∨ X.env.scope.names.lookup x = some .local := by first | exact .inl rfl | exact .inr rfl | assumption) :
    QS X C W (.Assign [.Name x pos'] (.Dict [] [] dpos) pos) (sNewW i) := wkS (ps_set hN hi hx pe_dnewT hs hf) fun Dn σ H ⟨A, α, ρ, sr, q⟩ => by
  unfold sNewW at q
  by_cases h : settable ρ i = true
  · rw [if_pos h] at q
    intro p hp
    obtain ⟨h1, h2⟩ := settable_ok sr h
    have g : Gro C H (upd H p (.dT [])) := Gro.new hp
    have s1 := (sr.addA hp g upd_same (fun _ z => nomatch z)).1
    exact q (on α i p) _ _ (s1.takeW h1 (sr.newA hp) upd_same) (stp_on hp (Stp.of_gro g) h2)
  · rw [if_neg h] at q
    exact q.elim
/-! ### x[a, b, ..] = v -/
def keyK : D → Option Key
  | .int i => some (.inl i)
  | .str x => some (.inr x)
  | _ => none
def keysK : List D → Option (List Key)
  | [] => some []
  | d :: ds => (keyK d).bind fun k => (keysK ds).map fun ks => k :: ks
theorem keyK_some {d : D} {k : Key} (h : keyK d = some k) : d = keyD k := by
  cases d <;> first | (cases h; rfl) | cases h
theorem keysK_some : ∀ {ds : List D} {ks : List Key}, keysK ds = some ks → ds = ks.map keyD
  | [], _, h => by cases h; rfl
  | d :: ds, _, h => by
    obtain ⟨k, h1, h⟩ := bind_some h
    simp only [Option.map_eq_some_iff] at h
    obtain ⟨ks, h2, rfl⟩ := h
    rw [List.map_cons, keyK_some h1, keysK_some h2]
theorem RepL.keysV {K : PySem.W.Frag} {F : Addr → Prop} : ∀ {ks : List Key} {vs : List V}, RepL K C F H (ks.map keyD) vs → vs = ks.map kV
  | [], _, h => by cases h; rfl
  | k :: ks, _, h => by
    cases h with
    | cons r t =>
      rw [RepL.keysV t]
      cases k with
      | inl i => cases r; rfl
      | inr x => cases r; rfl
def putE (es : List (List Key × D)) (k : List Key) (d : D) : List (List Key × D) := if (es.any fun p => decide (p.1 = k)) = true then es.map (fun p => if p.1 = k then (p.1, d) else p) else es ++ [(k, d)]
theorem any_fst {β γ : Type} {k : List Key} : ∀ {l : List (List Key × β)} {m : List (List Key × γ)}, l.map (·.1) = m.map (·.1) → (l.any fun p => decide (p.1 = k)) = (m.any fun p => decide (p.1 = k))
  | [], [], _ => rfl
  | [], _ :: _, h => by cases h
  | _ :: _, [], h => by cases h
  | x :: l, y :: m, h => by
    rw [List.map_cons, List.map_cons] at h
    injection h with h1 h2
    rw [List.any_cons, List.any_cons, h1, any_fst h2]
theorem put_rep {K : PySem.W.Frag} {F : Addr → Prop} {k : List Key} {d : D} {v : V} (r : Rep K C F H d v) {es : List (List Key × D)} {kvs : List (List Key × V)} (e : es.map (·.1) = kvs.map (·.1)) (rs : RepL K C F H (es.map (·.2)) (kvs.map (·.2))) :
    (putE es k d).map (·.1) = (putK kvs k v).map (·.1) ∧ RepL K C F H ((putE es k d).map (·.2)) ((putK kvs k v).map (·.2)) := by
  unfold putE putK
  rw [any_fst (k := k) e]
  split
  · have : ∀ {es : List (List Key × D)} {kvs : List (List Key × V)}, es.map (·.1) = kvs.map (·.1) → RepL K C F H (es.map (·.2)) (kvs.map (·.2)) → (es.map fun p => if p.1 = k then (p.1, d) else p).map (·.1) = (kvs.map fun p => if p.1 = k then (p.1, v) else p).map (·.1) ∧
        RepL K C F H ((es.map fun p => if p.1 = k then (p.1, d) else p).map (·.2)) ((kvs.map fun p => if p.1 = k then (p.1, v) else p).map (·.2)) := by
      intro es
      induction es with
      | nil => intro kvs e rs; cases kvs with
        | nil => exact ⟨rfl, .nil⟩
        | cons _ _ => cases e
      | cons x es ih =>
        intro kvs e rs
        cases kvs with
        | nil => cases e
        | cons y kvs =>
          rw [List.map_cons, List.map_cons] at e
          injection e with e1 e2
          cases rs with
          | cons r1 r2 =>
            obtain ⟨i1, i2⟩ := ih e2 r2
            simp only [List.map_cons]
            rw [i1, e1]
            by_cases h : y.1 = k
            · rw [if_pos h, if_pos h]
              exact ⟨rfl, .cons r i2⟩
            · rw [if_neg h, if_neg h]
              exact ⟨by rw [e1], .cons r1 i2⟩
    exact this e rs
  · rw [List.map_append, List.map_append, List.map_append, List.map_append, e]
    exact ⟨rfl, rs.append (.cons r .nil)⟩
def sPutW (i : Nat) (fs : Rho → Option (List D)) (m : Rho → Res D) : Rho → SRes := fun ρ => match m ρ with
  | .ok d ρ1 => (match ρ1[i]?, (fs ρ1).bind keysK with
    | some (.w es), some ks => if es.length < 5000 then .nx (ρ1.set i (.w (putE es ks d))) else .bad
    | _, _ => .bad)
  | .ex c p ρ1 => .ex c p ρ1
  | .bad => .bad
theorem SR.writeW {i : Nat} {a : Addr} {es es' : List (List Key × D)} {kvs kvs' : List (List Key × V)} (s : SR X.K C A α ρ σ H) (hi : ρ[i]? = some (.w es)) (ha : α i = some a) (hl : H a = some (.dT kvs)) (hk : es'.map (·.1) = kvs'.map (·.1)) (hr : RepL X.K C (Fb A α) H (es'.map (·.2)) (kvs'.map (·.2))) :
    SR X.K C A α (ρ.set i (.w es')) σ (upd H a (.dT kvs')) ∧ Stp C α H α (upd H a (.dT kvs')) := by
  have fa : Fb A α a := .inr ⟨i, ha⟩
  have ne : ∀ b u, H b = some u → ((¬ Fb A α b ∧ NT u) ∨ Fix u) → b ≠ a := fun b u e n zz => by
    rw [zz] at e n
    rcases n with n | n
    · exact n.1 fa
    · rw [hl] at e; cases e; exact n
  have m : Mv (Fb A α) (Fb A α) H (upd H a (.dT kvs')) := ⟨fun b u e n => by rw [upd_ne (ne b u e n)]; exact e, fun b u _ _ n => n⟩
  refine ⟨⟨by rw [List.length_set, s.len], s.inj, fun j h => s.out j (by rw [List.length_set] at h; exact h), fun j x e => ?_, fun b h => ?_, s.na, tabs_new s.tabs hl⟩, ⟨fun b o e n => ?_, fun t => tabs_new t hl, fun b e => ?_, fun j b e => .inl ⟨j, e⟩, fun b e => e⟩⟩
  · by_cases hj : i = j
    · subst hj
      rw [List.getElem?_set_self (List.getElem?_eq_some_iff.mp hi).1] at e
      cases e
      obtain ⟨a', vs', e1, e2, e3, _⟩ := s.sl i _ hi
      rw [ha] at e1
      cases e1
      exact ⟨a, kvs', ha, e2, upd_same, hk, hr.mv m⟩
    · rw [List.getElem?_set_ne hj] at e
      have q := s.sl j x e
      cases x with
      | no => exact q
      | v d => obtain ⟨e1, v, e2, r⟩ := q; exact ⟨e1, v, e2, r.mv m⟩
      | o ds' =>
        obtain ⟨a', vs', e1, e2, e3, r⟩ := q
        exact ⟨a', vs', e1, e2, by rw [upd_ne (fun z => hj (s.inj i j a ha (by rw [← z]; exact e1)))]; exact e3, r.mv m⟩
      | w es =>
        obtain ⟨a', vs', e1, e2, e3, e4, r⟩ := q
        exact ⟨a', vs', e1, e2, by rw [upd_ne (fun z => hj (s.inj i j a ha (by rw [← z]; exact e1)))]; exact e3, e4, r.mv m⟩
  · by_cases hb : b = a
    · exact absurd h (by rw [hb]; exact s.na i a ha)
    · rw [upd_ne hb]
      exact s.dom b h
  · have nb : b ≠ a := fun z => by
      rcases n with ⟨n, _⟩ | n
      · exact n ⟨i, by rw [z]; exact ha⟩
      · rw [z, hl] at e
        cases e
        exact n
    rw [upd_ne nb]
    exact e
  · by_cases hb : b = a
    · rw [hb, upd_same] at e; cases e
    · rw [upd_ne hb] at e
      exact e
theorem qs_putW {i : Nat} {x : Str} {p p2 p3 pos : Pos} {kk : Nat} {es : List Expr} {e : Expr} {fs : Rho → Option (List D)} {m : Rho → Res D} (hu : X.A.units + 64 < cLine) (hN : X.N[i]? = some x) (hv : Vis X.env.scope x) (hk : QA X C es fs) (he : VE X C W e m) (hl : es.length ≤ 1000 := by decide)
    (hs : swapsWith e (some (.Subscript (.Name x p) (.Tuple es kk p2) p3)) pos.line X.env = pure false := by rfl) (hd : (x == ("__debug__" : Str)) = false := by decide) (hcd : (x == ("__classdict__" : Str)) = false := by decide) :
    QS X C W (.Assign [.Subscript (.Name x p) (.Tuple es kk p2) p3] e pos) (sPutW i fs m) :=
  wkS (ps_dput (by omega) (pe_var (i := i) hN hv hd hcd) (pe_tup hk.pa) he hs) fun Dn σ H ⟨A, α, ρ, sr, q⟩ => by
    refine ⟨A, α, ρ, sr, ?_⟩
    unfold sPutW at q
    cases h1 : m ρ with
    | bad => simp only [h1] at q; exact q.elim
    | ex c p ρ' => simp only [h1] at q; exact fun α' o H' s t x => q α' σ o H' s t x
    | ok d ρ1 =>
      simp only [h1] at q
      intro α1 v H1 s1 t1 r1
      split at q
      · rename_i es0 ks e1 e2
        obtain ⟨ds, f1, f2⟩ := bind_some e2
        split at q
        · rename_i hlen
          obtain ⟨a, kvs, a1, a2, a3, a4, a5⟩ := s1.sl i _ e1
          refine ⟨.ref a, a2, A, α1, ρ1, ds, s1, f1, fun vs H2 g2 r2 => ⟨?_, fun p hp => ?_⟩⟩
          · rw [← r2.length, hk.len ρ1 ds f1]; exact line1000 hl
          · have e3 := keysK_some f2
            subst e3
            have e4 := r2.keysV
            subst e4
            have g3 : Gro C H1 (upd H2 p (.tup (ks.map kV))) := g2.trans (Gro.new hp)
            have s3 := s1.grow g3
            have hl3 := g3.kp.any a3 (fun _ z => nomatch z)
            have hkl : kvs.length < 5000 := by
              have := congrArg List.length a4
              rw [List.length_map, List.length_map] at this
              omega
            obtain ⟨p1, p2⟩ := put_rep (k := ks) (r1.mv g3.mv) a4 (a5.mv g3.mv)
            obtain ⟨s4, t4⟩ := s3.writeW e1 a1 hl3 p1 p2
            exact ⟨a, _, rfl, DPut.t hl3 upd_same (Nat.lt_of_lt_of_le hkl (by rw [sizeLine_eq]; decide)), q α1 σ _ s4 (t1.trans ((Stp.of_gro g3).trans t4))⟩
        · exact q.elim
      · exact q.elim
end
end VL
end
section
set_option Elab.async false
set_option linter.all false
set_option maxRecDepth 100000
set_option maxHeartbeats 2000000
/-! VL33: {k: v, ..} with tuples as keys; dict([(k, v), ..]). -/
namespace VL
open PySem PySem.Spec L2
open PyProof.Rows hiding St
section
variable {K : Type} [DecidableEq K]
theorem stored_nodup : ∀ {ps acc : List (K × Addr × Value)}, ((acc ++ ps).map (·.1)).Nodup → storedAllH acc ps = acc ++ ps
  | [], acc, _ => by simp [storedAllH]
  | p :: ps, acc, h => by
    have e : atKey acc p.1 = none := by
      unfold atKey
      rw [Option.map_eq_none_iff, List.find?_eq_none]
      intro x hx z
      have z := of_decide_eq_true z
      rw [List.map_append, List.map_cons] at h
      exact (List.nodup_append.mp h).2.2 x.1 (List.mem_map_of_mem hx) p.1 List.mem_cons_self z
    have e2 : storedAllH acc (p :: ps) = storedAllH (acc ++ [(p.1, p.2.1, p.2.2)]) ps := by
      unfold storedAllH
      rw [List.foldl_cons, storedH_new e]
    rw [e2, stored_nodup (by rw [List.append_assoc]; exact h), List.append_assoc]
    rfl
end
/-- no key twice -/
def ndN : List NestedKey → Bool
  | [] => true
  | k :: ks => !(ks.any fun x => NestedKey.beq k x) && ndN ks
theorem ndN_ok : ∀ {ks : List NestedKey}, ndN ks = true → ks.Nodup
  | [], _ => List.nodup_nil
  | k :: ks, h => by
    unfold ndN at h
    rw [Bool.and_eq_true, Bool.not_eq_true'] at h
    refine List.nodup_cons.mpr ⟨fun hm => ?_, ndN_ok h.2⟩
    have := List.any_eq_false.mp h.1 k hm
    rw [NestedKey.beq_self] at this
    exact this rfl
/-- a dict of these pairs -/
def dispD (ps : List (D × D)) : Option D := (fitN (ps.map (·.1))).bind fun ks => if ndN ks = true ∧ ks.length ≤ 5000 then some (.dic (ps.map (·.1)) (ps.map (·.2))) else none
theorem pair_up : ∀ {xs : List (NestedKey × V × V)} {zs : List (NestedKey × Addr × Value)}, Paired (fun p q => p.1 = q.1 ∧ p.2.1 = V.ref q.2.1 ∧ RelV p.2.2 q.2.2) xs zs → Paired KP xs (zs.map fun z => (z.1, Value.ref z.2.1, z.2.2))
  | [], [], .nil => .nil
  | x :: xs, z :: zs, .cons p t => .cons ⟨p.1, by rw [p.2.1]; rfl, p.2.2⟩ (pair_up t)
section
variable {P : Program} {w : World} {h : Heap} {a : Addr}
/-- a dict whose keys are tuples, as data -/
theorem dno_of {xs : List (NestedKey × V × V)} {zs : List (NestedKey × Addr × Value)} (hs : (a == sysModules) = false) (hl : xs.length ≤ sizeLine) (p : Paired (fun p q => p.1 = q.1 ∧ p.2.1 = V.ref q.2.1 ∧ RelV p.2.2 q.2.2) xs zs) (hm : h.DictOfH (nestedKind P w) a zs) :
    ∃ o, h.get? a = some o ∧ DNo w a o xs := by
  obtain ⟨o, es, ep, h1, h2, h3, h4, _, h5⟩ := hm
  refine ⟨o, h1, hs, hl, zs.map (fun z => (z.1, Value.ref z.2.1, z.2.2)), ?_, h2, es, ep, h3, ?_, ?_⟩
  · exact pair_up p
  · rw [h4, List.map_map]; rfl
  · rw [List.map_map]; exact h5
end
section
variable {X : Cx} {pins : List (Addr × Obj)} {σ : L2.St} {H : Hp} {s : Shared} {C : Ctx} {F : Addr → Prop}
/-- pairs that have come, as the library tells them -/
theorem pairs_low (I : Inv X pins σ H s) : ∀ {ps : List (D × D)} {kv vv : List V} {ku vu : List Value} {ks : List NestedKey}, RepL X.K C F H (ps.map (·.1)) kv → RepL X.K C F H (ps.map (·.2)) vv → Vals kv ku → Vals vv vu → D.toNs (ps.map (·.1)) = some ks → (ps.map (·.1)).all isTupD = true →
    ∃ (xs : List (NestedKey × V × V)) (zs : List (NestedKey × Addr × Value)), Paired (fun p q => p.1 = q.1 ∧ p.2.1 = V.ref q.2.1 ∧ RelV p.2.2 q.2.2) xs zs ∧ xs.map (·.1) = ks ∧ xs.map (·.2.1) = kv ∧ xs.map (·.2.2) = vv ∧ ku = zs.map (fun z => Value.ref z.2.1) ∧ vu = zs.map (·.2.2) ∧ zs.map (·.1) = ks ∧ ∀ z ∈ zs, NestedIs s.heap z.1 (.ref z.2.1)
  | [], [], [], [], [], _, .nil, .nil, .nil, .nil, e, _ => by cases e; exact ⟨[], [], .nil, rfl, rfl, rfl, rfl, rfl, rfl, fun _ h => nomatch h⟩
  | p :: ps, v :: kv, y :: vv, u :: ku, z :: vu, _, .cons r1 r2, .cons q1 q2, .cons a1 a2, .cons b1 b2, e, ht => by
    rw [List.map_cons, D.toNs] at e
    obtain ⟨k, e1, e2⟩ := bind_some e
    simp only [Option.map_eq_some_iff] at e2
    obtain ⟨ks, e2, rfl⟩ := e2
    rw [List.map_cons, List.all_cons, Bool.and_eq_true] at ht
    obtain ⟨xs, zs, h1, h2, h3, h4, h5, h6, h7, h8⟩ := pairs_low I r2 q2 a2 b2 e2 ht.2
    obtain ⟨ys, et⟩ := isTup_some ht.1
    have n := Rep.isN I r1 e1 a1
    replace r1 : Rep X.K C F H p.1 v := r1
    rw [et] at r1
    obtain ⟨a, ws, rfl, _⟩ := r1.tupI
    cases a1
    refine ⟨(k, .ref a, _) :: xs, (k, a, _) :: zs, .cons ⟨rfl, rfl, b1⟩ h1, by rw [List.map_cons, h2], by rw [List.map_cons, h3], by rw [List.map_cons, h4], by rw [List.map_cons, h5], by rw [List.map_cons, h6], by rw [List.map_cons, h7], fun x hx => ?_⟩
    rcases List.mem_cons.mp hx with rfl | hx
    · exact n
    · exact h8 x hx
end
/-! ### displays -/
def rdPs (K : PySem.W.Frag) (C : Ctx) (fs : Rho → Option (List (D × D))) (σ : L2.St) (H : Hp) (Q : List (V × V) → Hp → Prop) : Prop := ∃ A α ρ ps, SR K C A α ρ σ H ∧ fs ρ = some ps ∧
  ∀ ws H1, Gro C H H1 → RepL K C (Fb A α) H1 (ps.map (·.1)) (ws.map (·.1)) → RepL K C (Fb A α) H1 (ps.map (·.2)) (ws.map (·.2)) → Q ws H1
structure QPs (X : Cx) (C : Ctx) (pos : Pos) (keys : List (Option Expr)) (values : List Expr) (fs : Rho → Option (List (D × D))) : Prop where
  run : ∀ (pins : List (Addr × Obj)) (s : Shared) (σ : L2.St) (H : Hp) (Q : List (V × V) → Hp → Prop), Inv X pins σ H s → rdPs X.K C fs σ H Q →
    wpAny (model X.prog X.w) X.A (evalPairs (pairTrees keys values X.env pos)) (fun vs s' => ∃ ps H', Inv X pins σ H' s' ∧ VV ps vs ∧ Q ps H') X.xe s
def dpN : Rho → Option (List (D × D)) := fun _ => some []
def dpC (fk fv : Rho → Option D) (fs : Rho → Option (List (D × D))) : Rho → Option (List (D × D)) := fun ρ => (fk ρ).bind fun k => (fv ρ).bind fun v => (fs ρ).map fun ps => (k, v) :: ps
section
variable {X : Cx} {C : Ctx} {pos : Pos} {k v : Expr} {keys : List (Option Expr)} {values : List Expr} {fk fv : Rho → Option D} {fs : Rho → Option (List (D × D))}
theorem qps_nil : QPs X C pos [] [] dpN := ⟨fun pins s σ H Q I ⟨A, α, ρ, ps, sr, e, q⟩ => by
  cases e
  exact pps_nil.run pins s σ H Q I (q [] H Gro.refl .nil .nil)⟩
theorem qps_cons (hk : QE X C k fk) (hv : QE X C v fv) (hr : QPs X C pos keys values fs) : QPs X C pos (some k :: keys) (v :: values) (dpC fk fv fs) := ⟨fun pins s σ H Q I ⟨A, α, ρ, ps, sr, e, q⟩ => by
  obtain ⟨dk, e1, e⟩ := bind_some e
  obtain ⟨dv, e2, e⟩ := bind_some e
  simp only [Option.map_eq_some_iff] at e
  obtain ⟨ds, e3, rfl⟩ := e
  refine pairTrees_cons_walk (thn (hk.run pins s σ H (fun x H1 => Gro C H H1 ∧ Rep X.K C (Fb A α) H1 dk x) I ⟨A, α, ρ, dk, sr, e1, fun x H1 g r => ⟨g, r⟩⟩) fun u s1 ⟨x, H1, I1, rx, g1, r1⟩ =>
    thn (hv.run pins s1 σ H1 (fun y H2 => Gro C H1 H2 ∧ Rep X.K C (Fb A α) H2 dv y) I1 ⟨A, α, ρ, dv, sr.grow g1, e2, fun x H1 g r => ⟨g, r⟩⟩) fun w2 s2 ⟨y, H2, I2, ry, g2, r2⟩ =>
    thn (hr.run pins s2 σ H2 (fun ws H3 => Gro C H2 H3 ∧ RepL X.K C (Fb A α) H3 (ds.map (·.1)) (ws.map (·.1)) ∧ RepL X.K C (Fb A α) H3 (ds.map (·.2)) (ws.map (·.2))) I2 ⟨A, α, ρ, ds, (sr.grow g1).grow g2, e3, fun ws H3 g a b => ⟨g, a, b⟩⟩) fun ws s3 ⟨ps, H3, I3, rel, g3, r3, r4⟩ => ?_)
  exact ⟨(x, y) :: ps, H3, I3, .cons ⟨rx, ry⟩ rel, q _ H3 (g1.trans (g2.trans g3)) (.cons (r1.mv (g2.trans g3).mv) r3) (.cons (r2.mv g3.mv) r4)⟩⟩
theorem tabs_newK {H : Hp} {T : List (Addr × Str)} {a : Addr} {kvs : List (Key × V)} {u : HO} (t : LamX.Tabs T H) (h : H a = some (.dK kvs)) : LamX.Tabs T (upd H a u) := fun p hp => by
  obtain ⟨ps, e1, e2, e3⟩ := t p hp
  have k : ∀ b o, H b = some o → (∀ zs, o ≠ .dK zs) → upd H a u b = some o := fun b o e n => by
    rw [upd_ne (fun z => by rw [z, h] at e; exact n kvs (Option.some.inj e).symm)]
    exact e
  refine ⟨ps, k _ _ e1 (fun _ z => nomatch z), e2, fun pos cv hc => ?_⟩
  obtain ⟨c, q1, q2⟩ := e3 pos cv hc
  exact ⟨c, q1, k _ _ q2 (fun _ z => nomatch z)⟩
/-- a new thing at p, written over -/
theorem gro_newK {H H2 : Hp} {p : Addr} {kvs : List (Key × V)} {u : HO} (hn : H p = none) (g : Gro C H H2) (h : H2 p = some (.dK kvs)) : Gro C H (upd H2 p u) :=
  ⟨fun b o e n => by rw [upd_ne (ne_of_none e hn)]; exact g.kp b o e n, fun t => tabs_newK (g.tb t) h, fun b e => by
    by_cases hb : b = p
    · rw [hb]; exact hn
    · rw [upd_ne hb] at e; exact g.nn b e⟩
theorem carriesH {P : Program} {w : World} {h : Heap} : ∀ {ws : List (Value × Value)} {zs : List (NestedKey × Addr × Value)}, ws.map (·.1) = zs.map (fun z => Value.ref z.2.1) → ws.map (·.2) = zs.map (·.2.2) → (∀ z ∈ zs, NestedIs h z.1 (.ref z.2.1) ∧ z.1.depth ≤ 8) → CarriesH (nestedKind P w) h ws zs
  | [], [], _, _, _ => trivial
  | [], _ :: _, e, _, _ => by cases e
  | _ :: _, [], e, _, _ => by cases e
  | (k, v) :: ws, (z, a, y) :: zs, e1, e2, hz => by
    rw [List.map_cons, List.map_cons] at e1 e2
    injection e1 with a1 a2
    injection e2 with b1 b2
    exact ⟨a1, b1, hz _ List.mem_cons_self, carriesH a2 b2 fun x hx => hz x (List.mem_cons_of_mem _ hx)⟩
theorem vv_split : ∀ {ps : List (V × V)} {ws : List (Value × Value)}, VV ps ws → Vals (ps.map (·.1)) (ws.map (·.1)) ∧ Vals (ps.map (·.2)) (ws.map (·.2))
  | [], [], .nil => ⟨.nil, .nil⟩
  | p :: ps, w :: ws, .cons h t => ⟨.cons h.1 (vv_split t).1, .cons h.2 (vv_split t).2⟩
theorem qe_disp (hw : C.w = X.w) (hu : X.A.units + 64 < cLine) (h : QPs X C pos keys values fs) (hall : keys.all (·.isSome) = true := by rfl) (hl : keys.length = values.length := by rfl) (h0 : keys ≠ [] := by intro z; cases z) (h15 : keys.length ≤ 15 := by decide) :
    QE X C (.Dict keys values pos) (fun ρ => (fs ρ).bind dispD) := ⟨fun pins s σ H Q I ⟨A, α, ρ, d, sr, e, q⟩ => by
  obtain ⟨ps, e1, e2⟩ := bind_some e
  obtain ⟨ks, e3, e4⟩ := bind_some e2
  obtain ⟨f1, f2, f3⟩ := fitN_some e3
  split at e4
  · rename_i hnd
    cases e4
    have hn := I.hok.fresh (Nat.le_refl s.heap.objs.size)
    have I1 := I.laid (a := s.heap.objs.size) (o := .dK []) (h' := s.heap.push { cls := .type "dict", data := .dict #[] }) (t' := s.toks) (fun _ _ q => Heap.get?_push_of_some _ q) (Nat.le_refl _) (dk_empty s.heap I.big)
    have g1 : Gro C H (upd H s.heap.objs.size (.dK [])) := Gro.new hn
    have s1 := (sr.addA hn g1 upd_same (fun _ z => nomatch z)).1
    have hpl := pairTrees_length keys values X.env pos hall hl
    rw [arm_eval_Dict, zip_pairTrees keys values X.env pos hall hl, dictDisplay_pairs _ (fun he => by rw [he] at hpl; exact h0 (List.length_eq_zero_iff.mp hpl.symm)) (by rw [hpl]; omega)]
    refine wpAny_bind (wpAny_standAt (wpAny_bind (wpAny_subDictH (knd := nestedKind X.prog X.w) (show X.A.units + 8 < cLine by omega) (by rw [hpl]; exact h15) ?_)))
    refine thn (h.run pins _ σ _ (fun ws H2 => Gro C (upd H s.heap.objs.size (.dK [])) H2 ∧ RepL X.K C (Fb (fun a => A a ∨ a = s.heap.objs.size) α) H2 (ps.map (·.1)) (ws.map (·.1)) ∧ RepL X.K C (Fb (fun a => A a ∨ a = s.heap.objs.size) α) H2 (ps.map (·.2)) (ws.map (·.2))) I1 ⟨_, α, ρ, ps, s1, e1, fun ws H2 g a b => ⟨g, a, b⟩⟩) fun ws s2 ⟨wv, H2, I2, rel, g2, r1, r2⟩ => ?_
    have hD := g2.kp.any upd_same (fun _ z => nomatch z)
    obtain ⟨v1, v2⟩ := vv_split rel
    obtain ⟨xs, zs, p1, p2, p3, p4, p5, p6, p7, p8⟩ := pairs_low I2 r1 r2 v1 v2 f2 f1
    have hc : ∀ z ∈ zs, NestedIs s2.heap z.1 (.ref z.2.1) ∧ z.1.depth ≤ 8 := fun z hz => ⟨p8 z hz, of_decide_eq_true (List.all_eq_true.mp f3 z.1 (by rw [← p7]; exact List.mem_map_of_mem hz))⟩
    obtain ⟨z0, hd, vs0, r0, o0, es0, ep0, h1, h2, h3, _, h5, _⟩ := dk_of I2.hok hD
    cases r0
    have hes : es0.toList = [] := by
      have := h5.length
      exact List.length_eq_zero_iff.mp this
    refine ⟨zs, carriesH p5 p6 hc, ⟨o0, es0, ep0, h1, h2, h3, hes, (fun x hx => nomatch hx), List.nodup_nil⟩, fun h' tk hm hs => ?_⟩
    rw [stored_nodup (by rw [List.nil_append, p7]; exact ndN_ok hnd.1), List.nil_append] at hm
    have hlen : xs.length ≤ sizeLine := by
      have := congrArg List.length p2
      rw [List.length_map] at this
      have h6 := hnd.2
      rw [sizeLine_eq]
      omega
    obtain ⟨o, ho, dn⟩ := dno_of hd hlen p1 hm
    have I3 := d_write (t' := tk) I2 (a := s.heap.objs.size) (ob := DN s.heap.objs.size o) (by rw [hD]; exact True.intro) hs ⟨o, ho⟩ (dn_ok ho)
    have m : Mv (Fb (fun a => A a ∨ a = s.heap.objs.size) α) (Fb A α) H2 (upd H2 s.heap.objs.size (DN s.heap.objs.size o)) := ⟨fun b u e n => by
      have nb : b ≠ s.heap.objs.size := fun z => by
        rw [z] at e n
        rcases n with n | n
        · exact n.1 (.inl (.inr rfl))
        · rw [hD] at e; cases e; exact n
      rw [upd_ne nb]; exact e, fun b u _ _ n z => n (z.elim (fun z => .inl (.inl z)) .inr)⟩
    rw [← p3] at r1
    rw [← p4] at r2
    exact wpAny_pure ⟨.ref s.heap.objs.size, _, I3, rfl, q _ _ (gro_newK hn (g1.trans g2) hD) (.dic upd_same (by rw [hw]; exact dn) (by rw [f2, p2]) (r1.mv m) (r2.mv m))⟩
  · cases e4⟩
end
end VL
end
section
set_option Elab.async false
set_option linter.all false
set_option maxRecDepth 100000
set_option maxHeartbeats 2000000
/-! VL34: dict([(k, v), ..]); {text: v}. -/
namespace VL
open PySem PySem.Spec L2
open PyProof.Rows hiding St
def pairsO : List D → Option (List (D × D))
  | [] => some []
  | .tup [k, v] :: ds => (pairsO ds).map fun ps => (k, v) :: ps
  | _ => none
section
variable {X : Cx} {pins : List (Addr × Obj)} {σ : L2.St} {H : Hp} {s : Shared} {C : Ctx} {F : Addr → Prop}
theorem pairs_items (I : Inv X pins σ H s) : ∀ {ds : List D} {ps : List (D × D)} {vs : List V} {us : List Value}, RepL X.K C F H ds vs → Vals vs us → pairsO ds = some ps →
    ∃ (kv vv : List V) (ku vu : List Value) (as : List Addr), RepL X.K C F H (ps.map (·.1)) kv ∧ RepL X.K C F H (ps.map (·.2)) vv ∧ Vals kv ku ∧ Vals vv vu ∧ us = as.map Value.ref ∧ as.length = ps.length ∧ ∀ (j : Nat) (k v : Value), (ku.zip vu)[j]? = some (k, v) → ∃ a : Addr, as[j]? = some a ∧ PairAt s.heap a k v
  | [], _, [], [], .nil, .nil, e => by cases e; exact ⟨[], [], [], [], [], .nil, .nil, .nil, .nil, rfl, rfl, fun j k v z => by simp at z⟩
  | d :: ds, ps, v :: vs, u :: us, .cons r1 r2, .cons a1 a2, e => by
    unfold pairsO at e
    split at e
    · rename_i heq; cases heq
    · rename_i k y ds' heq
      injection heq with h1 h2
      subst h1 h2
      simp only [Option.map_eq_some_iff] at e
      obtain ⟨ps, e, rfl⟩ := e
      obtain ⟨kv, vv, ku, vu, as, h1, h2, h3, h4, h5, h6, h7⟩ := pairs_items I r2 a2 e
      obtain ⟨a, ws, rfl, l, r⟩ := r1.tupI
      cases a1
      obtain ⟨its, rv, p, hz⟩ := I.tuple l
      cases r with
      | @cons _ _ w1 ws1 q1 q2 =>
        cases q2 with
        | @cons _ _ w2 ws2 q2 q3 =>
          cases q3
          cases rv with
          | @cons _ u1 _ _ b1 b2 =>
            cases b2 with
            | @cons _ u2 _ _ b2 b3 =>
              cases b3
              refine ⟨w1 :: kv, w2 :: vv, u1 :: ku, u2 :: vu, a :: as, .cons q1 h1, .cons q2 h2, .cons b1 h3, .cons b2 h4, by rw [List.map_cons, ← h5], by rw [List.length_cons, List.length_cons, h6], fun j k v z => ?_⟩
              cases j with
              | zero => simp at z; obtain ⟨rfl, rfl⟩ := z; exact ⟨a, rfl, .inl p⟩
              | succ j => exact h7 j k v (by simpa using z)
    · cases e
end
section
variable {X : Cx} {C : Ctx} {pos p : Pos} {e : Expr} {fs : Rho → Option (List D)}
theorem get_zip {ku vu : List Value} : ∀ {zs : List (NestedKey × Addr × Value)} {i : Nat} {k v : Value}, ku = zs.map (fun z => Value.ref z.2.1) → vu = zs.map (·.2.2) → (ku.zip vu)[i]? = some (k, v) → ∃ n b, zs[i]? = some (n, b, v) ∧ k = .ref b := fun {zs i k v} h1 h2 e => by
  subst h1 h2
  rw [List.zip_map', List.getElem?_map] at e
  cases h : zs[i]? with
  | none => rw [h] at e; cases e
  | some z =>
    rw [h, Option.map_some] at e
    injection e with e
    injection e with e1 e2
    subst e1 e2
    exact ⟨z.1, z.2.1, rfl, rfl⟩
/-- dict([(k, v), ..]) -/
theorem qe_dictL (hw : C.w = X.w) (hu : X.A.units + 64 < cLine) (hc : X.calm = true) (hg : Gl X "dict") (hm : X.mg "dict" = none) (he : FE X C e fs) (hv : bootBuiltins "dict" = some (.type "dict") := by rfl) (hs : starEach [e] X.env = [(false, eval e X.env)] := by rfl) :
    QE X C (.Call (.Name "dict" p) [e] [] pos) (fun ρ => (fs ρ).bind fun ds => (pairsO ds).bind dispD) := ⟨fun pins s σ H Q I ⟨A, α, ρ, d, sr, e, q⟩ => by
  obtain ⟨ds, e1, e⟩ := bind_some e
  obtain ⟨ps, e2, e⟩ := bind_some e
  obtain ⟨ks, e3, e4⟩ := bind_some e
  obtain ⟨f1, f2, f3⟩ := fitN_some e3
  split at e4
  · rename_i hnd
    cases e4
    refine Call_ (ld_blt I hg hm hv (PyProof.Rows.callWith_type1 (thn ((pa_cons he pa_nil hs).run pos pins s σ H (fun ws H1 => ∃ a vs, ws = [.ref a] ∧ Gro C H H1 ∧ H1 a = some (.lst vs) ∧ RepL X.K C (Fb A α) H1 ds vs) I
      ⟨A, α, ρ, ds, sr, e1, fun a vs H1 g n l r => ⟨a, vs, rfl, g, l, r.mv (Mv.weak fun b z => .inl z)⟩⟩) fun us s1 ⟨ws, H1, I1, r1, a, vs, ew, g1, l, r⟩ => ?_) hs rfl))
    subst ew
    cases r1 with
    | cons ra rr =>
      cases rr
      cases ra
      obtain ⟨its, rv, ⟨ob, n, hob, hcl, hdi, hda⟩, hz⟩ := I1.list (show SqL X.K H1 a vs from SqL.of l)
      obtain ⟨kv, vv, ku, vu, as, h1, h2, h3, h4, h5, h6, h7⟩ := pairs_items I1 r rv e2
      obtain ⟨xs, zs, p1, p2, p3, p4, p5, p6, p7, p8⟩ := pairs_low I1 h1 h2 h3 h4 f2 f1
      have hlz : zs.length = ps.length := by
        have e5 := congrArg List.length p5
        rw [List.length_map] at e5
        rw [← e5, ← h3.length, ← h1.length, List.length_map]
      have hkz : (ku.zip vu).length = ps.length := by rw [p5, p6, List.zip_map', List.length_map, hlz]
      have hsy : (s1.heap.objs.size == sysModules) = false := beq_eq_false_iff_ne.mpr (Ne.symm (Nat.ne_of_lt I1.big))
      refine call_dict_pairsH (knd := nestedKind X.prog X.w) (ps := zs) (PairArg.list (prog := X.prog) (w := X.w) a its.toArray (fun j => as.getD j 0) (ku.zip vu)) (I1.ok.hd hc) (show X.A.units + 1 + 1 + 8 < cLine by omega) ⟨⟨ob, n, hob, hcl, hdi, hda⟩, ?_, fun j k v z => ?_⟩ ⟨by rw [hlz, hkz], fun i k v z => ?_⟩ ?_ (by rw [hkz, sizeLine_eq]; have h9 := hnd.2; have := congrArg List.length p7; rw [List.length_map, hlz] at this; omega) fun h' tk hm' hk => ?_
      · rw [List.size_toArray, h5, List.length_map, h6, hkz]
      · obtain ⟨b, b1, b2⟩ := h7 j k v z
        have e8 : as.getD j 0 = b := by rw [List.getD_eq_getElem?_getD, b1]; rfl
        refine ⟨?_, by show PairAt _ (as.getD j 0) k v; rw [e8]; exact b2⟩
        show its.toArray[j]? = some (Value.ref (as.getD j 0))
        rw [e8, h5, List.getElem?_toArray, List.getElem?_map, b1]
        rfl
      · obtain ⟨n', b, z1, z2⟩ := get_zip p5 p6 z
        exact ⟨n', b, z1, z2⟩
      · intro h' hk x hx
        exact ⟨NestedIs.at (fun b o vs n hb _ => hk b o (Nat.ne_of_lt (Heap.lt_size hb)) (fun z => nomatch z) hb) _ _ (p8 x hx), of_decide_eq_true (List.all_eq_true.mp f3 x.1 (by rw [← p7]; exact List.mem_map_of_mem hx))⟩
      · rw [stored_nodup (by rw [List.nil_append, p7]; exact ndN_ok hnd.1), List.nil_append] at hm'
        have hlen : xs.length ≤ sizeLine := by
          have := congrArg List.length p2
          rw [List.length_map] at this
          have h6 := hnd.2
          rw [sizeLine_eq]
          omega
        obtain ⟨o, ho, dn⟩ := dno_of hsy hlen p1 hm'
        have hn := I1.hok.fresh (Nat.le_refl s1.heap.objs.size)
        have I3 := I1.laid (a := s1.heap.objs.size) (o := DN s1.heap.objs.size o) (h' := h') (t' := tk) (fun b u z => hk b u (fun z => nomatch z) z) (Nat.le_refl _) (dn_ok ho)
        have g2 : Gro C H1 (upd H1 s1.heap.objs.size (DN s1.heap.objs.size o)) := Gro.new hn
        rw [← p3] at h1
        rw [← p4] at h2
        exact ⟨.ref s1.heap.objs.size, _, I3, rfl, q _ _ (g1.trans g2) (.dic upd_same (by rw [hw]; exact dn) (by rw [f2, p2]) (h1.mv g2.mv) (h2.mv g2.mv))⟩
  · cases e4⟩
end
/-- {k: v}, k a text -/
def disp1 : D → D → Option D
  | .str x, v => some (.dic [.str x] [v])
  | _, _ => none
section
variable {X : Cx} {C : Ctx} {pos : Pos} {k v : Expr} {fk fv : Rho → Option D}
theorem qe_disp1 (hw : C.w = X.w) (hk : QE X C k fk) (hv : QE X C v fv) : QE X C (.Dict [some k] [v] pos) (q2 disp1 fk fv) := ⟨fun pins s σ H Q I ⟨A, α, ρ, d, sr, e, q⟩ => by
  obtain ⟨dk, e1, e⟩ := bind_some e
  obtain ⟨dv, e2, e⟩ := bind_some e
  unfold disp1 at e
  split at e
  · rename_i x y
    cases e
    refine thn ((pe_disp (pps_cons hk hv pps_nil) rfl rfl (fun z => nomatch z) (by show 1 ≤ 15; decide)).run pins s σ H (fun u H1 => ∃ p w H2, u = .ref p ∧ H p = none ∧ Gro C H H2 ∧ H2 p = some (.dK []) ∧ H1 = upd H2 p (.dK [(.inr x, w)]) ∧ Rep X.K C (Fb (fun a => A a ∨ a = p) α) H2 dv w) I ?_) fun u s1 ⟨v, H1, I1, rv, p, w, H2, ev, hn, g2, hD, eH, r⟩ => ?_
    · intro p hp
      have g1 : Gro C H (upd H p (.dK [])) := Gro.new hp
      have s1 := (sr.addA hp g1 upd_same (fun _ z => nomatch z)).1
      refine ⟨_, α, ρ, _, s1, e1, fun u H2 g2 r2 => ⟨_, α, ρ, dv, s1.grow g2, e2, fun w H3 g3 r3 => ?_⟩⟩
      cases r2
      have hD := (g2.trans g3).kp.any upd_same (fun _ z => nomatch z)
      exact ⟨hD, [(.inr x, w)], rfl, by show 1 ≤ 15; decide, p, w, H3, rfl, hp, g1.trans (g2.trans g3), hD, rfl, r3⟩
    · subst ev eH
      cases rv
      obtain ⟨z, hd, vs, rel, o, es, ep, h1, h2, h3, h4, h5, h6⟩ := dk_of I1.hok upd_same
      cases rel with
      | @cons a b as bs c1 c2 =>
        cases c2
        obtain ⟨b1, b2⟩ := b
        obtain ⟨c1, c3⟩ := c1
        cases c1
        have I3 := d_write (t' := s1.toks) (h' := s1.heap) I1 (a := p) (ob := DN p o) (by rw [upd_same]; exact True.intro) (Heap.SameBut.refl _ _) ⟨o, h1⟩ (dn_ok h1)
        have m : Mv (Fb (fun a => A a ∨ a = p) α) (Fb A α) H2 (upd (upd H2 p (.dK [(.inr x, w)])) p (DN p o)) := ⟨fun b u e n => by
          have nb : b ≠ p := fun z => by
            rw [z] at e n
            rcases n with n | n
            · exact n.1 (.inl (.inr rfl))
            · rw [hD] at e; cases e; exact n
          rw [upd_ne nb, upd_ne nb]; exact e, fun b u _ _ n z => n (z.elim (fun z => .inl (.inl z)) .inr)⟩
        have gg : Gro C H (upd (upd H2 p (.dK [(.inr x, w)])) p (DN p o)) := gro_newK hn (gro_newK hn g2 hD) upd_same
        generalize hl : es.toList = l at h5
        cases h5 with
        | @cons en kv' ens kvs' q1 q2 q3 =>
          cases q3
          have q1 : keyIs (.inr x) en.key = true := q1
          obtain ⟨kk, z1, z2⟩ := h4 en (by rw [← Array.mem_toList_iff, hl]; exact List.mem_singleton.mpr rfl)
          have e9 : kk = .inr x := (mixKind X.prog X.w).inj _ _ _ z1 q1
          subst e9
          have dn : DNo X.w p o [(.text x, .str x, w)] := by
            refine ⟨hd, by rw [sizeLine_eq]; show 1 ≤ 16777216; decide, [(.text x, en.key, en.val)], .cons ⟨rfl, relV_key (k := .inr x) q1, by rw [q2]; exact c3⟩ .nil, h2, es, ep, h3, ?_, by simp⟩
            rw [hl]
            show [en] = [⟨_, _, _⟩]
            have e10 : en.hash = (NestedKey.text x).hash X.w := by rw [z2, NestedKey.hash]; rfl
            rw [← e10]
          exact ⟨.ref p, _, I3, rfl, q _ _ gg (.dic (xs := [(.text x, .str x, w)]) upd_same (by rw [hw]; exact dn) (by simp only [D.toNs, D.toN, Option.bind_some, Option.map_some, List.map_cons, List.map_nil]) (.cons (.str x) .nil) (.cons (r.mv m) .nil))⟩
  · cases e⟩
end
end VL
end
section
set_option Elab.async false
set_option linter.all false
set_option maxRecDepth 100000
set_option maxHeartbeats 2000000
/-! VL35: dict comprehensions with tuples as keys. -/
namespace VL
open PySem PySem.Spec L2
open PyProof.Rows hiding St
theorem d_dictSetT {X : Cx} {pins : List (Addr × Obj)} {σ : L2.St} {H : Hp} {s : Shared} {E : Value → Shared → Prop} {D b : Addr} {kvs : List (List Key × V)} {k : List Key} {v : V} {u r : Value} {Q : Unit → Shared → Prop} (hu : X.A.units + 64 < cLine) (I : Inv X pins σ H s) (hD : H D = some (.dT kvs)) (hz : kvs.length < sizeLine)
    (eb : H b = some (.tup (k.map kV))) (ry : RelV (.ref b) u) (rv : RelV v r) (h : ∀ s', Inv X pins σ (upd H D (.dT (putK kvs k v))) s' → Q () s') : wpAny (model X.prog X.w) X.A (dictSet D u r) Q E s := by
  cases ry
  obtain ⟨z, hd, xs, rel, dd⟩ := dt_of I.hok hD
  have hzv : xs.length ≤ sizeLine := by rw [← Paired.length rel]; exact z
  have hl : (putK kvs k v).length ≤ sizeLine := by have := length_putK kvs k v; omega
  refine wpAny_dictSet_heap (hsz := hzv) (show X.A.units < cLine by omega) (key_of I.hok eb) dd fun h' dd' hs => h _ ?_
  obtain ⟨q, es, ep, hq, h2, h3, h4, _, h5⟩ := dd'
  refine d_write I (by rw [hD]; exact True.intro) hs ⟨q, hq⟩ ⟨hl, hd, _, (rel.put k eb rv).keeps fun c ys ec => ?_, q, es, ep, hq, h2, h3, h4, h5⟩
  rw [upd_ne (ne_of ec hD (fun z => nomatch z))]
  exact ec
theorem lockD {X : Cx} {C : Ctx} {pins : List (Addr × Obj)} {σ : L2.St} {H : Hp} {s : Shared} {F F' : Addr → Prop} {a : Addr} {kvs : List (List Key × V)} {es : List (List Key × D)} (I : Inv X pins σ H s) (hw : C.w = X.w) (e3 : H a = some (.dT kvs)) (e4 : es.map (·.1) = kvs.map (·.1)) (r : RepL X.K C F H (es.map (·.2)) (kvs.map (·.2))) (hF : ∀ b, F' b → F b) (fa : F a) :
    ∃ o, Inv X pins σ (upd H a (DN a o)) s ∧ Rep X.K C F' (upd H a (DN a o)) (dicW es) (.ref a) := by
  obtain ⟨z, y, xs, rel, o, en, ep, h1, h2, h3, h4, h5⟩ := (show ObjOk X.prog X.w H s.heap a (.dT kvs) from I.hok a _ e3)
  have I' : Inv X pins σ (upd H a (DN a o)) { s with heap := s.heap, toks := s.toks } := I.write (x := a) (e := a) (o := DN a o) (t' := s.toks) (h' := s.heap) (by rw [e3]; trivial) (.inl rfl) (fun b u _ q => q) ⟨o, h1⟩ (dn_ok h1)
  have m : Mv F F' H (upd H a (DN a o)) := ⟨fun b u e n => by
    have nb : b ≠ a := fun zz => by
      rw [zz] at e n
      rcases n with n | n
      · exact n.1 fa
      · rw [e3] at e; cases e; exact n
    rw [upd_ne nb]; exact e, fun b u _ _ n zz => n (hF b zz)⟩
  obtain ⟨ys, y1, y2, y3, y4⟩ := kt_split (K := X.K) (C := C) (F := F) rel
  have lz : ys.length = kvs.length := by have := congrArg List.length y2; rwa [List.length_map, List.length_map] at this
  refine ⟨o, I', .dic (o := o) (xs := ys) upd_same ⟨y, by rw [lz]; exact z, xs.map fKey, y4, h2, en, ep, h3, ?_, ?_⟩ ?_ ?_ ?_⟩
  · rw [h4, List.map_map]
    refine List.map_congr_left fun x _ => ?_
    show (⟨_, _, _⟩ : DictEntry) = ⟨_, _, _⟩
    rw [hw, hash_tup X.prog X.w]
  · rw [List.map_map]
    rw [show (xs.map ((fun x => x.1) ∘ fKey)) = (xs.map (·.1)).map (fun k => NestedKey.tup (k.map nkey)) by rw [List.map_map]; rfl]
    exact List.Pairwise.map _ (fun p q hpq zz => hpq (nkeys_inj (by injection zz))) h5
  · rw [fst_map (fun k : List Key => D.tup (k.map keyD)) e4, y1]
    clear y1 y2 y3 y4 rel h4 h5 r e3 I' m e4 z lz
    induction kvs with
    | nil => rfl
    | cons p kvs ih =>
      rw [List.map_cons, List.map_cons, D.toNs, ih]
      simp only [D.toN, nkeys_toN, Option.map_some, Option.bind_some]
  · rw [fst_map (fun k : List Key => D.tup (k.map keyD)) e4]
    exact y3.mv m
  · rw [y2]; exact r.mv m
section
variable {X : Cx}
/-- {k: v for target in iter if ..}, keys tuples of ints and texts: D the new dict (HandS's rule, turned) -/
def tDcT (wi : TI) (g : TG) (tt : TT) (tk tv : TE) (vs : List Nat) : TE := fun σ H Q => wi σ H fun J H1 => ∀ D, H1 D = none → ∃ W : Nat → Nat → Hp → Prop, (∃ m, W 0 m (upd H1 D (.dT []))) ∧ ∀ i m H, W i m H →
  (J.stop i H ∧ Q (.ref D) H) ∨ (J.go i H ∧ ∃ Nx : Hp → Prop, (∀ H', Nx H' → ∃ m', m' < m ∧ W (i + 1) m' H') ∧ ∀ x H', J.yld i H x H' → g x (wipe σ vs) H' fun σ2 H2 => wipe σ2 vs = wipe σ vs ∧ tt σ2 H2 fun b H3 =>
    if b = true then tk σ2 H3 fun y H4 => tv σ2 H4 fun z H5 => ∃ kvs k b, y = .ref b ∧ H5 b = some (.tup (k.map kV)) ∧ H5 D = some (.dT kvs) ∧ kvs.length < sizeLine ∧ Nx (upd H5 D (.dT (putK kvs k z))) else Nx H3)
theorem dc_coreT {pins : List (Addr × Obj)} {s : Shared} {σ : L2.St} {H : Hp} {Q : VK} {kx vx tg iter : Expr} {ifs : List Expr} {scope : Scope} {own : List (Str × Nat)} {pos pos' : Pos} {wi : TI} {g : TG} {tt : TT} {tk tv : TE} {use : Option (Value → Sem Unit)} {Qf : Value → Shared → Prop}
    (hu : X.A.units + 64 < cLine) (hc : X.calm = true) (hN : X.N.Nodup) (I : Inv X pins σ H s) (hi : PI X tg iter wi) (ok : BlkOk X.N X.env.scope scope own)
    (hg : ∀ (s : Shared) (H : Hp) (C : Addr) (cl : List (Str × Addr)) (fp : List Addr), PG (X.blk s H scope (compEnvC scope cl C X.env) fp) tg g) (ht : ∀ (s : Shared) (H : Hp) (C : Addr) (cl : List (Str × Addr)) (fp : List Addr), PTs (X.blk s H scope (compEnvC scope cl C X.env) fp) ifs tt)
    (hk : ∀ (s : Shared) (H : Hp) (C : Addr) (cl : List (Str × Addr)) (fp : List Addr), PE (X.blk s H scope (compEnvC scope cl C X.env) fp) kx tk)
    (he : ∀ (s : Shared) (H : Hp) (C : Addr) (cl : List (Str × Addr)) (fp : List Addr), PE (X.blk s H scope (compEnvC scope cl C X.env) fp) vx tv) (hs : ∀ x, foldedSetIterable iter X.env x = pure x)
    (h : tDcT wi g tt tk tv (own.map (·.2)) σ H Q)
    (hRR : ∀ D C s' m H', Inv X pins σ H' s' → Q (.ref D) H' → s'.heap.Ns C m → FpOk X pins H' C → compPost (model X.prog X.w) X.A X.xe use Qf (.ref D) C (.ok .next) s') :
    wpAny (model X.prog X.w) X.A (comprehension (.DictComp kx vx [⟨tg, iter, ifs, 0⟩] scope pos) scope X.env pos' newDict false (eval iter X.env) use) Qf X.xe s := by
  have hfree : ∀ y ∈ scope.names, y.2 = .free → ∃ c, X.env.cells.lookup y.1 = some c := fun y hy e => by
    rcases ok.free y hy e with k | k
    · exact I.ok.has _ (.inl k)
    · exact I.ok.has _ (.inr k)
  refine wpAny_comprehension_free (use := use) rfl hs (closure_ok hfree) ok.kind (fun y hy e => by rw [ok.uniq y hy, e])
    (thn (hi.run pins s σ H _ I h) fun xv s1 hx => thn hx fun itv s2 h2 => ?_)
  obtain ⟨it, fp, tn, J, H2, e, I2, T, st2, f2, q⟩ := h2
  subst e
  refine wpAny_newObj_type (newEnv_comp ?_)
  generalize hD : s2.heap.objs.size = D
  have hDn : H2 D = none := I2.hok.fresh (Nat.le_of_eq hD)
  obtain ⟨W, ⟨m0, w0⟩, turn⟩ := q D hDn
  -- the new list
  generalize hs3 : ({ s2 with heap := s2.heap.push { cls := .type "dict", data := .dict #[] } } : Shared) = s3
  have I3 : Inv X pins σ (upd H2 D (.dT [])) s3 := by
    rw [← hs3]
    refine I2.laid (t' := s2.toks) (fun b o e => Heap.get?_push_of_some _ e) (Nat.le_of_eq hD) ?_
    rw [← hD]
    exact dt_empty s2.heap I2.big
  have h3 : s3.heap = s2.heap.push { cls := .type "dict", data := .dict #[] } := by rw [← hs3]
  have sz : ∀ b ∈ fp, b < s2.heap.objs.size := fun b hb => by
    obtain ⟨o, e, _⟩ := T.obj _ _ st2 b hb
    exact Heap.lt_size e
  have f3 : ∀ b ∈ fp, FpOk X pins (upd H2 D (.dT [])) b ∧ b < s3.heap.objs.size := fun b hb => by
    have hlt := sz b hb
    refine ⟨⟨?_, (f2 b hb).2⟩, by rw [h3, Heap.size_push]; exact Nat.lt_succ_of_lt hlt⟩
    rw [upd_ne (by rw [← hD]; exact Nat.ne_of_lt hlt)]
    exact (f2 b hb).1
  have st3 : tn 0 s3.heap := T.keep _ _ _ st2 fun b _ o e => by rw [h3]; exact Heap.get?_push_of_some _ e
  have I4 := block_start I3 ok hN f3
  have pg := hg s3 (upd H2 D (.dT [])) s3.heap.objs.size (cellsFrom (s3.heap.objs.size + 1) scope.names (cloFrom X.env.cells scope.names [])) fp
  have pt := ht s3 (upd H2 D (.dT [])) s3.heap.objs.size (cellsFrom (s3.heap.objs.size + 1) scope.names (cloFrom X.env.cells scope.names [])) fp
  have pk := hk s3 (upd H2 D (.dT [])) s3.heap.objs.size (cellsFrom (s3.heap.objs.size + 1) scope.names (cloFrom X.env.cells scope.names [])) fp
  have pe := he s3 (upd H2 D (.dT [])) s3.heap.objs.size (cellsFrom (s3.heap.objs.size + 1) scope.names (cloFrom X.env.cells scope.names [])) fp
  show codeAny _ _ (.compStart (.DictComp kx vx [⟨tg, iter, ifs, 0⟩] scope pos) 0 (.ref it) (.ref D) (compEnvC scope (cellsFrom (s3.heap.objs.size + 1) scope.names (cloFrom X.env.cells scope.names [])) s3.heap.objs.size X.env)) (compPost (model X.prog X.w) X.A X.xe use Qf (.ref D) s3.heap.objs.size) { s3 with heap := pushCells (s3.heap.push { cls := .type "dict", data := .dict #[] }) scope.names }
  have nfp : ∀ b ∈ fp, (upd H2 D (.dT [])) b = none := fun b hb => (f3 b hb).1.1
  generalize hce : compEnvC scope (cellsFrom (s3.heap.objs.size + 1) scope.names (cloFrom X.env.cells scope.names [])) s3.heap.objs.size X.env = ce at I4 pg pt pk pe ⊢
  have cL : ce.locals = s3.heap.objs.size := by subst hce; rfl
  generalize hH3 : upd H2 D (.dT []) = H3 at I3 I4 pg pt pk pe w0 nfp f3
  generalize hs4 : ({ s3 with heap := pushCells (s3.heap.push { cls := .type "dict", data := .dict #[] }) scope.names } : Shared) = s4 at I4 ⊢
  have st4 : tn 0 s4.heap := T.keep _ _ _ st3 fun b _ o e => by rw [← hs4]; exact pushCells_keeps _ _ _ _ (Heap.get?_push_of_some _ e)
  have stat : ∀ {σ' : L2.St} {H' : Hp} {s' : Shared}, Inv (X.blk s3 H3 scope ce fp) [] σ' H' s' → (∀ b ∈ fp, H' b = none) → ∀ b ∈ fp, FpOk (X.blk s3 H3 scope ce fp) [] H' b := fun {σ' H' s'} I' hn b hb =>
    ⟨hn b hb, (I'.ok.exf b hb).1, I'.ok.exfs b hb, .inl hb, fun x c e => (I'.ok.exf b hb).2 x c e, fun p hp => absurd (show p ∈ ([] : List (Addr × Obj)) ++ [] from hp) (by simp)⟩
  have loop : codeAny (model X.prog X.w) X.A (.compLoop (.DictComp kx vx [⟨tg, iter, ifs, 0⟩] scope pos) 0 (.ref it) (.ref D) ce) (compPost (model X.prog X.w) X.A X.xe use Qf (.ref D) s3.heap.objs.size) s4 := by
    refine compLoop_anyD (fun n s' => ∃ i H', Inv (X.blk s3 H3 scope ce fp) [] (wipe σ (own.map (·.2))) H' s' ∧ tn i s'.heap ∧ (∀ b ∈ fp, H' b = none) ∧ W i n H') ?_ m0 ⟨0, H3, I4, st4, nfp, w0⟩
    rintro n s5 ⟨i, H5, I5, st5, n5, w5⟩
    rcases turn i n H5 w5 with ⟨stop, qq⟩ | ⟨go, Nx, hNx, step⟩
    · have td := T.done (X.blk s3 H3 scope ce fp) rfl rfl rfl hc i [] s5 _ H5 (fun _ _ => False) I5 (stat I5 n5) st5 stop
      refine thnF td fun r s6 ⟨hr, I6⟩ => ?_
      subst hr
      -- back in the def's context
      have I7 : Inv X pins σ H5 s6 := I3.call' (ch := fp) I6.os I6.base I6.hok I6.bare fun b hb => ⟨(f3 b hb).1.2.2.2.1, (f3 b hb).1.2.1, (f3 b hb).1.2.2.2.2.1, (f3 b hb).1.2.2.2.2.2⟩
      have nC : H5 s3.heap.objs.size = none := by
        have z : H5 ce.locals = none := I6.free
        rw [cL] at z
        exact z
      obtain ⟨m, hn, _⟩ := I6.loc
      have hn : s6.heap.Ns ce.locals m := hn
      rw [cL] at hn
      exact hRR D s3.heap.objs.size s6 m H5 I7 qq hn (I3.fpOk (Nat.le_refl _) nC)
    · have ti := T.item (X.blk s3 H3 scope ce fp) rfl rfl rfl hc i [] s5 _ H5 (fun _ _ => False) I5 (stat I5 n5) st5 go
      refine thnF ti fun r s6 ⟨u, hr, h6⟩ => ?_
      subst hr
      refine thnF h6 fun _ s7 ⟨x, H7, I7, r7, y7, st7, n7⟩ => ?_
      have I7' := I7.pinned (stat I7 n7) (T.obj _ _ st7)
      refine thnF (pg.run _ s7 _ H7 x u _ I7' r7 (step x H7 y7)) fun _ s8 ⟨σ8, H8, I8, hw8, q8⟩ => ?_
      refine thnF (pt.run _ s8 σ8 H8 _ I8 q8) fun b s9 ⟨H9, I9, q9⟩ => ?_
      -- the turn's end
      have fin : ∀ {s' : Shared} {H' : Hp}, Inv (X.blk s3 H3 scope ce fp) ([] ++ pinsAt fp s7.heap) σ8 H' s' → Nx H' → ∃ m, m < n ∧ ∃ i H', Inv (X.blk s3 H3 scope ce fp) [] (wipe σ (own.map (·.2))) H' s' ∧ tn i s'.heap ∧ (∀ b ∈ fp, H' b = none) ∧ W i m H' := fun {s' H'} I' nx => by
        obtain ⟨m', hm, w'⟩ := hNx H' nx
        have pin' : ∀ b ∈ fp, ∀ o, s7.heap.get? b = some o → s'.heap.get? b = some o ∧ H' b = none := fun b hb o e =>
          let z := I'.pin (b, o) (List.mem_append_right _ (List.mem_append_right _ (mem_pinsAt hb e)))
          ⟨z.1, z.2.1⟩
        have hl : (wipe σ (own.map (·.2))).length = σ8.length := by rw [← hw8, wipe_length]
        refine ⟨m', hm, i + 1, H', (I'.unpinned (pins := [])).weak hl (fun j v e => ?_), T.keep _ _ _ st7 fun b hb o e => (pin' b hb o e).1, fun b hb => ?_, w'⟩
        · rw [← hw8] at e
          exact (wipe_some e).1
        · obtain ⟨o, e, _⟩ := T.obj _ _ st7 b hb
          exact (pin' b hb o e).2
      cases b with
      | false =>
        simp only [Bool.false_eq_true, if_false] at q9 ⊢
        exact fin I9 q9
      | true =>
        simp only [if_true] at q9 ⊢
        refine thnF (pk.run _ s9 σ8 H9 _ I9 q9) fun z s10 ⟨yk, H10, I10, r10, q10⟩ => ?_
        refine thnF (pe.run _ s10 σ8 H10 _ I10 q10) fun z2 s11 ⟨yv, H11, I11, r11, kvs, k, b0, ek, hb11, hD11, hz11, nx⟩ => ?_
        subst ek
        exact d_dictSetT (X := X.blk s3 H3 scope ce fp) hu I11 hD11 hz11 hb11 r10 r11 fun s12 I12 => fin I12 nx
  exact codeAny_compStart_dict loop (T.self X.A 0 _ _ _ st4 loop)
/-- as a value -/
theorem pe_dcT {kx vx tg iter : Expr} {ifs : List Expr} {scope : Scope} {own : List (Str × Nat)} {pos : Pos} {wi : TI} {g : TG} {tt : TT} {tk tv : TE} (hu : X.A.units + 64 < cLine) (hc : X.calm = true) (hN : X.N.Nodup) (hi : PI X tg iter wi) (ok : BlkOk X.N X.env.scope scope own)
    (hg : ∀ (s : Shared) (H : Hp) (C : Addr) (cl : List (Str × Addr)) (fp : List Addr), PG (X.blk s H scope (compEnvC scope cl C X.env) fp) tg g) (ht : ∀ (s : Shared) (H : Hp) (C : Addr) (cl : List (Str × Addr)) (fp : List Addr), PTs (X.blk s H scope (compEnvC scope cl C X.env) fp) ifs tt)
    (hk : ∀ (s : Shared) (H : Hp) (C : Addr) (cl : List (Str × Addr)) (fp : List Addr), PE (X.blk s H scope (compEnvC scope cl C X.env) fp) kx tk)
    (he : ∀ (s : Shared) (H : Hp) (C : Addr) (cl : List (Str × Addr)) (fp : List Addr), PE (X.blk s H scope (compEnvC scope cl C X.env) fp) vx tv) (hs : ∀ x, foldedSetIterable iter X.env x = pure x := by intro _; rfl) :
    PE X (.DictComp kx vx [⟨tg, iter, ifs, 0⟩] scope pos) (tDcT wi g tt tk tv (own.map (·.2))) := by
  refine ⟨fun pins s σ H Q I h => ?_⟩
  rw [arm_eval_DictComp]
  refine dc_coreT hu hc hN I hi ok hg ht hk he hs h fun D C s' m H' I' q hn f => ⟨m, hn, fun h'' sb => ?_⟩
  obtain ⟨f0, f1, f2, f3, f4, f5⟩ := f
  exact ⟨.ref D, H', I'.turned (t' := s'.toks) (fun b o hb e => (sb.2 b hb).trans e) f0 f1 f3 f4 f5, rfl, q⟩
end
/-! ### at the value layer -/
/-- a new tuple -/
def rdFT (K : PySem.W.Frag) (C : Ctx) (fs : Rho → Option (List D)) : TE := fun σ H Q => ∃ A α ρ ds, SR K C A α ρ σ H ∧ fs ρ = some ds ∧ ∀ p vs H', Gro C H H' → H' p = some (.tup vs) → RepL K C (Fb A α) H' ds vs → Q (.ref p) H'
abbrev FTE (X : Cx) (C : Ctx) (e : Expr) (fs : Rho → Option (List D)) : Prop := PE X e (rdFT X.K C fs)
section
variable {X : Cx} {C : Ctx} {es : List Expr} {pos : Pos} {fs : Rho → Option (List D)}
theorem fte_tup {x1} (h : QA X C es fs) (hl : es.length ≤ 1000 := by decide) : FTE X C (.Tuple es x1 pos) fs :=
  wkE (pe_tup h.pa) fun σ H Q ⟨A, α, ρ, ds, s, e, q⟩ => by
    refine ⟨A, α, ρ, ds, s, e, fun vs H1 g1 r => ⟨?_, fun p hp => q p vs _ (g1.trans (Gro.new hp)) upd_same (r.mv (Gro.new (C := C) hp).mv)⟩⟩
    rw [← r.length, h.len ρ ds e]
    exact line1000 hl
theorem fte_tupS {x1} (h : QAs X C es fs) : FTE X C (.Tuple es x1 pos) (lstS fs) :=
  wkE (pe_tup h) fun σ H Q ⟨A, α, ρ, ds, s, e, q⟩ => by
    obtain ⟨ds', hf, e2⟩ := bind_some e
    obtain ⟨c, rfl⟩ := if_some e2
    refine ⟨A, α, ρ, ds', s, hf, fun vs H1 g1 r => ⟨?_, fun p hp => q p vs _ (g1.trans (Gro.new hp)) upd_same (r.mv (Gro.new (C := C) hp).mv)⟩⟩
    rw [← r.length, ← sl16]
    exact of_decide_eq_true c
end
def compD (g : D → Rho → Option Rho) (t : Rho → Option Bool) (fk : Rho → Option (List D)) (fv : Rho → Option D) (ρ : Rho) : List D → List (List Key × D) → Option (List (List Key × D))
  | [], acc => some acc
  | x :: xs, acc => (g x ρ).bind fun ρ1 => (t ρ1).bind fun b => if b then ((fk ρ1).bind keysK).bind fun k => (fv ρ1).bind fun y => compD g t fk fv ρ xs (putE acc k y) else compD g t fk fv ρ xs acc
def qDc (vs : List Nat) (fi : Rho → Option (List D)) (g : D → Rho → Option Rho) (t : Rho → Option Bool) (fk : Rho → Option (List D)) (fv : Rho → Option D) : Rho → Option (List (List Key × D)) := fun ρ =>
  if cleanR ρ vs then (fi ρ).bind fun xs => if decide (xs.length ≤ 5000) then compD g t fk fv (wipeR ρ vs) xs [] else none else none
theorem putE_len (es : List (List Key × D)) (k : List Key) (d : D) : (putE es k d).length ≤ es.length + 1 := by
  unfold putE
  split
  · rw [List.length_map]; omega
  · rw [List.length_append]; simp
section
variable {K : PySem.W.Frag} {C : Ctx} {vs : List Nat} {fi : Rho → Option (List D)} {g : D → Rho → Option Rho} {t : Rho → Option Bool} {fk : Rho → Option (List D)} {fv : Rho → Option D}
theorem gro_newT {H H2 : Hp} {p : Addr} {kvs : List (List Key × V)} {u : HO} (hn : H p = none) (g : Gro C H H2) (h : H2 p = some (.dT kvs)) : Gro C H (upd H2 p u) :=
  ⟨fun b o e n => by rw [upd_ne (ne_of_none e hn)]; exact g.kp b o e n, fun t => tabs_new (g.tb t) h, fun b e => by
    by_cases hb : b = p
    · rw [hb]; exact hn
    · rw [upd_ne hb] at e; exact g.nn b e⟩
theorem dcQ {σ : L2.St} {H : Hp} {Q : VK} (h : ∃ A α ρ es, SR K C A α ρ σ H ∧ qDc vs fi g t fk fv ρ = some es ∧ ∀ D kvs H', Gro C H H' → H D = none → H' D = some (.dT kvs) → es.map (·.1) = kvs.map (·.1) → RepL K C (Fb (fun a => A a ∨ a = D) α) H' (es.map (·.2)) (kvs.map (·.2)) → Q (.ref D) H') :
    tDcT (rdI K C fi) (rdG K C vs g) (rdT K C t) (rdFT K C fk) (rdQ K C fv) vs σ H Q := by
  obtain ⟨A, α, ρ, es, sr, e, q⟩ := h
  obtain ⟨hcl, e1⟩ := if_bind e
  obtain ⟨xs, e2, e3⟩ := bind_some e1
  obtain ⟨hln, e4⟩ := if_bind e3
  have hln := of_decide_eq_true hln
  refine ⟨A, α, ρ, xs, sr, e2, fun J H1 g1 itr Dn hn => ?_⟩
  refine ⟨fun i m H2 => m = xs.length - i ∧ i ≤ xs.length ∧ Gro C H1 H2 ∧ ∃ acc kvs, H2 Dn = some (.dT kvs) ∧ acc.map (·.1) = kvs.map (·.1) ∧ RepL K C (Fb (fun a => A a ∨ a = Dn) α) H2 (acc.map (·.2)) (kvs.map (·.2)) ∧ compD g t fk fv (wipeR ρ vs) (xs.drop i) acc = some es ∧ acc.length ≤ i,
    ⟨xs.length, by omega, Nat.zero_le _, Gro.new hn, [], [], upd_same, rfl, .nil, by rw [List.drop_zero]; exact e4, Nat.le_refl _⟩, fun i m H2 hW => ?_⟩
  obtain ⟨rfl, hi, g2, acc, kvs, hD, hK, hR, hc, hal⟩ := hW
  have s1 := sr.grow g1
  obtain ⟨s2, m2⟩ := s1.addA hn g2 hD (fun _ z => nomatch z)
  have s3 := s2.wipe hcl
  obtain ⟨go, stop⟩ := itr _ _ m2
  by_cases hlt : i < xs.length
  · have ex : xs[i]? = some xs[i] := List.getElem?_eq_getElem hlt
    obtain ⟨hgo, hy⟩ := go i _ ex
    rw [drop_at ex] at hc
    obtain ⟨ρ1, c1, c2⟩ := bind_some hc
    obtain ⟨b, c3, c4⟩ := bind_some c2
    refine .inr ⟨hgo, fun H' => ∃ m', m' < xs.length - i ∧ (m' = xs.length - (i + 1) ∧ i + 1 ≤ xs.length ∧ Gro C H1 H' ∧ ∃ acc kvs, H' Dn = some (.dT kvs) ∧ acc.map (·.1) = kvs.map (·.1) ∧ RepL K C (Fb (fun a => A a ∨ a = Dn) α) H' (acc.map (·.2)) (kvs.map (·.2)) ∧ compD g t fk fv (wipeR ρ vs) (xs.drop (i + 1)) acc = some es ∧ acc.length ≤ i + 1),
      fun H' hN => hN, fun v H3 y => ?_⟩
    obtain ⟨g3, rx⟩ := hy v H3 y
    refine ⟨_, α, wipeR ρ vs, _, ρ1, s3.grow g3, rx, c1, fun σ' s4 k4 l4 => ⟨?_, _, α, ρ1, b, s4, c3, fun H4 g4 => ?_⟩⟩
    · refine wipe_ext (by rw [l4, wipe_length]) fun j hj => ?_
      rw [k4 j hj, wipe_out hj]
    · cases b with
      | true =>
        rw [if_pos rfl] at c4
        obtain ⟨ks, c5, c6⟩ := bind_some c4
        obtain ⟨ds, c7, c8⟩ := bind_some c5
        obtain ⟨y1, c9, c10⟩ := bind_some c6
        refine (if_pos rfl).mpr ⟨_, α, ρ1, ds, s4.grow g4, c7, fun p ws H5 g5 hp r5 => ⟨_, α, ρ1, y1, (s4.grow g4).grow g5, c9, fun w H6 g6 r6 => ?_⟩⟩
        have e5 := keysK_some c8
        subst e5
        have e6 := r5.keysV
        subst e6
        have gg := g3.trans (g4.trans (g5.trans g6))
        have hD6 := gg.kp.any hD (fun _ z => nomatch z)
        have hR6 := hR.mv gg.mv
        have hp6 := g6.kp.any hp (fun _ z => nomatch z)
        obtain ⟨p1, p2⟩ := put_rep (k := ks) r6 hK hR6
        have mu : Mv (Fb (fun a => A a ∨ a = Dn) α) (Fb (fun a => A a ∨ a = Dn) α) H6 (upd H6 Dn (.dT (putK kvs ks w))) := ⟨fun b u e n => by
          have nb : b ≠ Dn := fun z => by
            rw [z] at e n
            rcases n with n | n
            · exact n.1 (.inl (.inr rfl))
            · rw [hD6] at e; cases e; exact n
          rw [upd_ne nb]; exact e, fun b u _ _ n => n⟩
        have hkl : kvs.length = acc.length := by have := congrArg List.length hK; rwa [List.length_map, List.length_map, eq_comm] at this
        refine ⟨kvs, ks, p, rfl, hp6, hD6, ?_, xs.length - (i + 1), by omega, rfl, hlt, gro_newT hn (g2.trans gg) hD6, putE acc ks y1, putK kvs ks w, upd_same, p1, p2.mv mu, c10, ?_⟩
        · rw [hkl, sizeLine_eq]; omega
        · have := putE_len acc ks y1; omega
      | false =>
        rw [if_neg Bool.false_ne_true] at c4
        refine (if_neg Bool.false_ne_true).mpr ⟨xs.length - (i + 1), by omega, rfl, hlt, g2.trans (g3.trans g4), acc, kvs, (g3.trans g4).kp.any hD (fun _ z => nomatch z), hK, hR.mv (g3.trans g4).mv, c4, by omega⟩
  · have hd : xs.drop i = [] := List.drop_eq_nil_of_le (by omega)
    rw [hd] at hc
    cases hc
    exact .inl ⟨stop i (by omega), q Dn kvs H2 (g1.trans g2) (g1.nn _ hn) hD hK hR⟩
end
section
variable {X : Cx} {C : Ctx} {fi : Rho → Option (List D)} {g : D → Rho → Option Rho} {t : Rho → Option Bool} {fk : Rho → Option (List D)} {fv : Rho → Option D}
theorem qe_dc {kx vx tg iter : Expr} {ifs : List Expr} {scope : Scope} (own : List (Str × Nat)) {pos : Pos} (hw : C.w = X.w) (hu : X.A.units + 64 < cLine) (hc : X.calm = true) (hN : X.N.Nodup) (hi : QI X C tg iter fi) (ok : BlkOk X.N X.env.scope scope own)
    (hg : ∀ (s : Shared) (H : Hp) (Ca : Addr) (cl : List (Str × Addr)) (fp : List Addr), QG (X.blk s H scope (compEnvC scope cl Ca X.env) fp) C (own.map (·.2)) tg g)
    (ht : ∀ (s : Shared) (H : Hp) (Ca : Addr) (cl : List (Str × Addr)) (fp : List Addr), QTs (X.blk s H scope (compEnvC scope cl Ca X.env) fp) C ifs t)
    (hk : ∀ (s : Shared) (H : Hp) (Ca : Addr) (cl : List (Str × Addr)) (fp : List Addr), FTE (X.blk s H scope (compEnvC scope cl Ca X.env) fp) C kx fk)
    (he : ∀ (s : Shared) (H : Hp) (Ca : Addr) (cl : List (Str × Addr)) (fp : List Addr), QE (X.blk s H scope (compEnvC scope cl Ca X.env) fp) C vx fv) (hs : ∀ x, foldedSetIterable iter X.env x = pure x := by intro _; rfl) :
    QE X C (.DictComp kx vx [⟨tg, iter, ifs, 0⟩] scope pos) (fun ρ => (qDc (own.map (·.2)) fi g t fk fv ρ).map dicW) := ⟨fun pins s σ H Q I ⟨A, α, ρ, d, sr, e, q⟩ => by
  simp only [Option.map_eq_some_iff] at e
  obtain ⟨es, e, rfl⟩ := e
  refine thn ((pe_dcT hu hc hN hi ok hg (fun s H Ca cl fp => (ht s H Ca cl fp).pt) hk he hs).run pins s σ H (fun v H1 => ∃ D kvs, v = .ref D ∧ Gro C H H1 ∧ H D = none ∧ H1 D = some (.dT kvs) ∧ es.map (·.1) = kvs.map (·.1) ∧ RepL X.K C (Fb (fun a => A a ∨ a = D) α) H1 (es.map (·.2)) (kvs.map (·.2))) I
    (dcQ ⟨A, α, ρ, es, sr, e, fun D kvs H' g hn hD hK hR => ⟨D, kvs, rfl, g, hn, hD, hK, hR⟩⟩)) fun u s1 ⟨v, H1, I1, rv, D, kvs, ev, g1, hn, hD, hK, hR⟩ => ?_
  subst ev
  obtain ⟨o, I2, rep⟩ := lockD I1 hw hD hK hR (F' := Fb A α) (fun b z => z.elim (fun z => .inl (.inl z)) .inr) (.inl (.inr rfl))
  exact ⟨_, _, I2, rv, q _ _ (gro_newT hn g1 hD) rep⟩⟩
end
end VL
end
section
set_option Elab.async false
set_option linter.all false
set_option maxRecDepth 100000
set_option maxHeartbeats 2000000
/-! VL36: objects of slotted classes: properties, methods, isinstance; the head's facts on them. -/
namespace VL
open PySem PySem.Spec L2
open PyProof.Rows hiding St
/-! ### properties and methods -/
/-- the getter of a property -/
def gtA (K : PySem.W.Frag) (p : Addr) : Addr := match PySem.W.recIn K p "property" with
  | some (.ref g :: _) => g
  | _ => 0
/-- c.f is a property whose getter computes F -/
structure GP (P : Program) (w : World) (K : PySem.W.Frag) (mg : Str → Option Value) (base : Heap) (C : Ctx) (cA : Addr) (f : Str) (k : Nat) (F : List D → FRes) : Prop where
  ex : ∃ (fd : FuncData) (x : Str), FnOkG P w K mg base C8.CX0 k (gtA K (He.ma K cA f)) fd [x] (spP K C 1 F) ∧ L2.Binds K fd [x] []
  cls : SlX.SCls K cA
  at_ : PySem.W.findIn K (.ref cA) f = some (some (.ref (He.ma K cA f)))
  get : PySem.W.specialIn K (.ref (He.ma K cA f)) "__get__" = some (some (.builtin "property.__get__"))
  tk : PySem.W.takesIn K (.ref (He.ma K cA f)) = some true
  rc : ∃ rest, PySem.W.recIn K (He.ma K cA f) "property" = some (.ref (gtA K (He.ma K cA f)) :: rest)
structure GM (P : Program) (w : World) (K : PySem.W.Frag) (mg : Str → Option Value) (base : Heap) (C : Ctx) (cA : Addr) (f : Str) (k n : Nat) (F : List D → FRes) : Prop where
  ex : ∃ (fd : FuncData) (ps : List Str), FnOkG P w K mg base C8.CX0 k (He.ma K cA f) fd ps (spP K C (n + 1) F) ∧ L2.Binds K fd ps []
  cls : SlX.SCls K cA
  m : Meth K cA f (He.ma K cA f)
def propD (c : Nat) (F : List D → FRes) : D → Option D
  | .obj c' ds => if c' = c then (match F [.obj c ds] with
    | .ok d => some d
    | _ => none) else none
  | _ => none
theorem propD_some {c : Nat} {F : List D → FRes} {d r : D} (h : propD c F d = some r) : ∃ ds, d = .obj c ds ∧ F [.obj c ds] = .ok r := by
  unfold propD at h
  split at h
  · split at h
    · rename_i e
      subst e
      split at h
      · rename_i e; cases h; exact ⟨_, rfl, e⟩
      · cases h
    · cases h
  · cases h
section
variable {X : Cx} {C : Ctx} {c k n : Nat} {cA : Addr} {f m : Str} {e o : Expr} {es : List Expr} {pos apos : Pos} {F : List D → FRes} {fa : Rho → Option D} {fs : Rho → Option (List D)}
theorem spP_of {A : Addr → Prop} {α : Nat → Option Addr} {ρ : Rho} {σ : L2.St} {H : Hp} {ds : List D} {vs : List V} {r : D} {Q : VK} {E : XK} (s : SR X.K C A α ρ σ H) (rs : RepL X.K C (Fb A α) H ds vs) (hl : ds.length = n) (hF : F ds = .ok r) (q : ∀ v H', Gro C H H' → Rep X.K C (Fb A α) H' r v → Q v H') : spP X.K C n F vs H Q E := by
  refine ⟨Fb A α, ds, s.dm, s.tabs, rs, hl, ?_⟩
  rw [hF]
  exact q
/-- e.f, a property -/
theorem qe_prop (hoc : C.oc c = some cA) (G : GP X.prog X.w X.K X.mg X.base C cA f k F) (hr : RoomG (k + 1) X.A) (ha : QE X C e fa) (hb : attributeBase e f X.env (eval e X.env) = eval e X.env := by rfl) : QE X C (.Attribute e f pos) (qU (propD c F) fa) := ⟨fun pins s σ H Q I ⟨A, α, ρ, d, sr, e, q⟩ => by
  obtain ⟨x, e1, e2⟩ := bind_some e
  obtain ⟨ds, rfl, hF⟩ := propD_some e2
  obtain ⟨fd, y, Fn, hbd⟩ := G.ex
  refine attr_of hb (thn (ha.run pins s σ H (fun v H1 => Gro C H H1 ∧ Rep X.K C (Fb A α) H1 (.obj c ds) v) I ⟨A, α, ρ, _, sr, e1, fun v H1 g r => ⟨g, r⟩⟩) fun u s1 ⟨v, H1, I1, rv, g1, r1⟩ => ?_)
  obtain ⟨a, cA', dx, vs, rfl, h1, h2, h3⟩ := r1.objI
  rw [hoc] at h1
  cases h1
  cases rv
  have hr1 : RoomG k X.A.in1 := ⟨(show Room (k + 1) X.A from hr.toRoom).in1, hr.gd⟩
  exact getprop (Q := Q) (E := C8.E0) I1 h2 G.cls G.at_ G.get G.tk G.rc Fn hbd hr1 (spP_of (ds := [.obj c ds]) (sr.grow g1) (.cons r1 .nil) rfl hF fun v H' g r => q v H' (g1.trans g) r)⟩
def methD (c : Nat) (F : List D → FRes) (d : D) (ds : List D) : Option D := match d with
  | .obj c' xs => if c' = c then (match F (.obj c xs :: ds) with
    | .ok d => some d
    | _ => none) else none
  | _ => none
theorem methD_some {c : Nat} {F : List D → FRes} {d r : D} {ds : List D} (h : methD c F d ds = some r) : ∃ xs, d = .obj c xs ∧ F (.obj c xs :: ds) = .ok r := by
  unfold methD at h
  split at h
  · split at h
    · rename_i e
      subst e
      split at h
      · rename_i e; cases h; exact ⟨_, rfl, e⟩
      · cases h
    · cases h
  · cases h
/-- o.m(e, ..) -/
theorem qe_meth {pl : Sem Bool} (hoc : C.oc c = some cA) (G : GM X.prog X.w X.K X.mg X.base C cA m k n F) (hr : RoomG k X.A) (ho : QE X C o fa) (ha : QA X C (e :: es) fs) (hn : (e :: es).length = n := by rfl)
    (hst : starEach (e :: es) X.env = (false, eval e X.env) :: starEach es X.env := by rfl) (hpl : (backTo pos (starEach es X.env)).any (·.1) = false := by rfl)
    (ht : eval (.Call (.Attribute o m apos) (e :: es) [] pos) X.env = (do
      let ov ← eval o X.env
      standAt apos.atName
      let (f, first) ← holding [ov] (getMethod ov m pl)
      callWith pos f first (backTo pos (starEach (e :: es) X.env)) (backToKw pos (keywordEach [] X.env))) := by rfl) :
    QE X C (.Call (.Attribute o m apos) (e :: es) [] pos) (fun ρ => (fa ρ).bind fun d => (fs ρ).bind fun ds => methD c F d ds) := ⟨fun pins s σ H Q I ⟨A, α, ρ, d, sr, ee, q⟩ => by
  obtain ⟨x, e1, ee⟩ := bind_some ee
  obtain ⟨ds, e2, ee⟩ := bind_some ee
  obtain ⟨xs, rfl, hF⟩ := methD_some ee
  obtain ⟨fd, ps, Fn, hbd⟩ := G.ex
  refine PySem.W.methodCall_KW (pl := pl) (thn (ho.run pins s σ H (fun v H1 => Gro C H H1 ∧ Rep X.K C (Fb A α) H1 (.obj c xs) v) I ⟨A, α, ρ, _, sr, e1, fun v H1 g r => ⟨g, r⟩⟩) fun u s1 ⟨v, H1, I1, rv, g1, r1⟩ => ?_) ht
  obtain ⟨a, cA', dx, vs, rfl, h1, h2, h3⟩ := r1.objI
  rw [hoc] at h1
  cases h1
  cases rv
  refine SlX.getmethsl_ok I1 h2 G.cls G.m ?_
  refine PySem.W.callWith_K (first := [.ref a]) (h₀ := X.base) I.ok.mod.kin G.m.kp (thn (ha.pa.run pos pins s1 σ H1 (fun ws H2 => Gro C H1 H2 ∧ RepL X.K C (Fb A α) H2 ds ws) I1 ⟨A, α, ρ, ds, sr.grow g1, e2, fun ws H2 g r => ⟨g, r⟩⟩) fun us s2 ⟨ws, H2, I2, r, g2, r2⟩ => ⟨I2.kIn, ?_⟩) hst hpl
  refine run_fnG (us := .ref a :: us) (vs := .ref a :: ws) (Q := Q) (E := C8.E0) Fn hr hbd .nil (fun pins H s e s' => (C8.pass0 (E := C8.E0)) pins σ H s e s') I2 (.cons rfl r) ?_
  show spP X.K C (n + 1) F ((.ref a :: ws) ++ []) H2 Q C8.E0
  rw [List.append_nil]
  exact spP_of (ds := .obj c xs :: ds) ((sr.grow g1).grow g2) (.cons (r1.mv g2.mv) r2) (by rw [List.length_cons, ha.len ρ ds e2]; rw [← hn]) hF fun v H' g r => q v H' (g1.trans (g2.trans g)) r⟩
end
/-! ### isinstance(v, own class) -/
/-- the own class against the built-in types of data -/
structure IsiC (K : PySem.W.Frag) (cA : Addr) : Prop where
  cls : SlX.SCls K cA
  isi : SlX.SIsi K cA
  own : PySem.W.kitOne K (.ref cA) (.ref cA) = some true
  blt : ∀ T ∈ (["NoneType", "bool", "int", "str", "tuple", "list", "dict"] : List String), PySem.W.kitOne K (.type T) (.ref cA) = some false
def isiOwn (c : Nat) (d : D) : Option D := match d with
  | .obj c' (_ :: _) => if c' = c then some (.bl true) else none
  | _ => match tyD d with
    | some T => if T ∈ (["NoneType", "bool", "int", "str", "tuple", "list", "dict"] : List String) then some (.bl false) else none
    | none => none
def rIsiO (K : PySem.W.Frag) (w : World) (cA : Addr) : List V → Hp → VK → Prop := fun xs H Q => ∃ x, xs = [x, .ref cA] ∧ ((∃ a dx vs, x = .ref a ∧ SlX.Slt H a cA dx vs ∧ Q (.bl true) H) ∨ ∃ T, TyY K w H x (.type T) ∧ T ∈ (["NoneType", "bool", "int", "str", "tuple", "list", "dict"] : List String) ∧ Q (.bl false) H)
theorem call_isiO {X : Cx} {w : World} {cA : Addr} (G : IsiC X.K cA) : CallR X (.builtin "isinstance") (rIsiO X.K w cA) := by
  intro pins s σ H xs us Q I r h
  obtain ⟨x, rfl, h⟩ := h
  obtain ⟨u1, u2, rfl, r1, r2⟩ := vals2 r
  cases r2
  rcases h with ⟨a, dx, vs, rfl, hsl, q⟩ | ⟨T, ty, hT, q⟩
  · cases r1
    obtain ⟨sl, od, _, J, _⟩ := SlX.slt_inst I hsl
    exact PySem.W.kia_one (OwX.kitx_slt G.cls.ic (G.cls.get _) G.isi.ca G.isi.cn G.isi.ct G.isi.cm) I.kIn J G.own (fun z => nomatch z) fun tk => ⟨.bl true, H, I.tok _, rfl, q⟩
  · obtain ⟨P, Z, p, hx⟩ := kit_ofY I r1 ty
    exact PySem.W.kia_one Z I.kIn p (G.blt T hT) hx fun tk => ⟨.bl false, H, I.tok tk, rfl, q⟩
end VL
end
section
set_option Elab.async false
set_option linter.all false
set_option maxRecDepth 100000
set_option maxHeartbeats 2000000
/-! VL37: isinstance(v, own class); C(..): an __init__ of guards and one store into all slots. -/
namespace VL
open PySem PySem.Spec L2
open PyProof.Rows hiding St
section
variable {X : Cx} {C : Ctx} {c : Nat} {cA : Addr} {a : Expr} {fa : Rho → Option D} {pos : Pos}
theorem isiOwn_some {d r : D} (h : isiOwn c d = some r) : (∃ x xs, d = .obj c (x :: xs) ∧ r = .bl true) ∨ ∃ T, tyD d = some T ∧ T ∈ (["NoneType", "bool", "int", "str", "tuple", "list", "dict"] : List String) ∧ r = .bl false := by
  unfold isiOwn at h
  split at h
  · split at h
    · rename_i e; cases h; subst e; exact .inl ⟨_, _, rfl, rfl⟩
    · cases h
  · split at h
    · split at h
      · cases h; exact .inr ⟨_, by assumption, by assumption, rfl⟩
      · cases h
    · cases h
/-- isinstance(e, C) -/
theorem qe_isiO {x y : Str} {p p2 : Pos} (hoc : C.oc c = some cA) (G : IsiC X.K cA) (ha : QE X C a fa) (hg : Gl X x) (hm : X.mg x = none) (hv : bootBuiltins x = some (.builtin "isinstance")) (hg2 : Gl X y) (hm2 : X.mg y = some (.ref cA))
    (hn : x ≠ "__name__" := by decide) (hdb : (x == ("__debug__" : Str)) = false := by decide) (hdb2 : (y == ("__debug__" : Str)) = false := by decide)
    (he : starEach [a, .Name y p2] X.env = (false, eval a X.env) :: starEach [.Name y p2] X.env := by rfl) (hpl : (backTo pos (starEach [.Name y p2] X.env)).any (·.1) = false := by rfl) (he2 : starEach [.Name y p2] X.env = (false, eval (.Name y p2) X.env) :: starEach [] X.env := by rfl) :
    QE X C (.Call (.Name x p) [a, .Name y p2] [] pos) (qU (isiOwn c) fa) :=
  wkE (pe_callB (call_isiO (w := C.w) G) hg hm hv (pa_cons ha (pa_cons (pe_glob (v := .ref cA) hg2 hm2 rfl hdb2) pa_nil he2) he) hn hdb he hpl) fun σ H Q ⟨A, α, ρ, d, s, e, q⟩ => by
    obtain ⟨x, e1, e⟩ := bind_some e
    refine ⟨A, α, ρ, x, s, e1, fun v H1 g1 r1 => ⟨v, rfl, ?_⟩⟩
    rcases isiOwn_some e with ⟨y, ys, rfl, rfl⟩ | ⟨T, h1, h2, rfl⟩
    · obtain ⟨a, cA', dx, vs, rfl, z1, z2, z3⟩ := r1.objI
      rw [hoc] at z1
      cases z1
      exact .inl ⟨a, dx, _, rfl, z2, q _ H1 g1 (.bl _)⟩
    · exact .inr ⟨T, RepB.tyX (.inl r1) h1, h2, q _ H1 g1 (.bl _)⟩
end
/-! ### C(..) -/
def spNew (K : PySem.W.Frag) (C : Ctx) (n : Nat) (cA : Addr) (F : List D → Option (List D)) : Sp := fun vs H Q _ => ∃ Fo ds a dx vs', vs = .ref a :: vs' ∧ H a = some (.ins cA dx []) ∧ ¬ Fo a ∧ DmF Fo H ∧ LamX.Tabs C.T H ∧ RepL K C Fo H ds vs' ∧ ds.length = n ∧ match F ds with
  | some rs => ∀ H' ws, H' a = some (SlX.SlO a cA dx (ws.map some)) → H' dx = some (.xd []) → RepL K C Fo H' rs ws → (∀ b o, b ≠ a → b ≠ dx → H b = some o → NT o → H' b = some o) → LamX.Tabs C.T H' → (∀ b, H' b = none → H b = none) → Q .non H'
  | none => False
/-- the body: guards that all fail, then the store -/
def rdNew (K : PySem.W.Frag) (C : Ctx) (cA : Addr) (g : Rho → Option (List D)) : TS := fun Dn σ H => ∃ A α ρ a dx rs, SR K C A α ρ σ H ∧ σ[0]? = some (some (.ref a)) ∧ H a = some (.ins cA dx []) ∧ g ρ = some rs ∧
  ∀ H0 H' ws, Gro C H H0 → H' a = some (SlX.SlO a cA dx (ws.map some)) → H' dx = some (.xd []) → (∀ (F' : Addr → Prop) (H2 : Hp), RepL K C F' H2 rs ws) → (∀ b o, b ≠ a → b ≠ dx → H0 b = some o → H' b = some o) → LamX.Tabs C.T H' → (∀ b, H' b = none → H b = none) → Dn.nx σ H'
abbrev QNew (X : Cx) (C : Ctx) (cA : Addr) (body : List Stmt) (g : Rho → Option (List D)) : Prop := PSs X body (rdNew X.K C cA g)
def gGuard (t : Rho → Option Bool) (g : Rho → Option (List D)) : Rho → Option (List D) := fun ρ => match t ρ with
  | some false => g ρ
  | _ => none
section
variable {X : Cx} {C : Ctx} {cA : Addr} {test : Expr} {b body : List Stmt} {t : Rho → Option Bool} {g : Rho → Option (List D)} {pos : Pos}
theorem pss_never : PSs X b tNever := ⟨fun _ _ _ _ _ _ h => h.elim⟩
theorem qnew_guard (ht : QT X C test t) (h : QNew X C cA body g) : QNew X C cA (.If test b [] pos :: body) (gGuard t g) := by
  refine ⟨fun pins s σ H Dn I ⟨A, α, ρ, a, dx, rs, sr, e1, e2, e3, q⟩ => ?_⟩
  unfold gGuard at e3
  split at e3
  · rename_i e4
    refine (pss_cons (ps_if ht (pss_never (b := b)) pss_nil) h).run pins s σ H Dn I ?_
    refine ⟨A, α, ρ, false, sr, e4, fun H1 g1 => ?_⟩
    show rdNew X.K C cA g Dn σ H1
    refine ⟨A, α, ρ, a, dx, rs, sr.grow g1, e1, g1.kp.any e2 (fun _ z => nomatch z), e3, fun H0 H' ws g0 a1 a2 a3 a4 a5 a6 => q H0 H' ws (g1.trans g0) a1 a2 a3 a4 a5 fun b hb => g1.nn b (a6 b hb)⟩
  · cases e3
end
/-- self.f = v -/
def gSlot (i0 : Nat) (K : PySem.W.Frag) (cA : Addr) (j : Nat) : TG := fun v σ H Q => ∃ a dx zs, σ[i0]? = some (some (.ref a)) ∧ SlX.Slt H a cA dx zs ∧ Q σ (SlX.slH H a cA dx (SlX.putS j v zs))
theorem pg_slot {X : Cx} {cA p : Addr} {i0 j : Nat} {x f : Str} {p1 p2 : Pos} (hN : X.N[i0]? = some x) (hv : Vis X.env.scope x) (S : SlX.SCls X.K cA) (t : SlX.Slot1 X.K cA f p j) (hd : (x == ("__debug__" : Str)) = false := by decide) (hcd : (x == ("__classdict__" : Str)) = false := by decide) :
    PG X (.Attribute (.Name x p1) f p2) (gSlot i0 X.K cA j) := by
  refine ⟨fun pins s σ H v u Q I r ⟨a, dx, zs, e1, e2, q⟩ => ?_⟩
  rw [assign_Attribute]
  refine wpAny_bind (wpAny_holding (thn ((pe_var (i := i0) (pos := p1) hN hv hd hcd).run pins s σ H (fun v H1 => v = .ref a ∧ H1 = H) I ⟨_, e1, rfl, rfl⟩) fun ov s1 ⟨w, H1, I1, rw1, ew, eH⟩ => ?_))
  subst ew eH
  cases rw1
  exact wpAny_bind (wpAny_standAt (wpAny_bind (wpAny_holding (SlX.setslot_ok I1 e2 S t r fun s3 I3 => wpAny_release ⟨σ, _, I3, q⟩))))
/-- the slots behind several stores -/
def putAll : List Nat → List V → List (Option V) → List (Option V)
  | i :: is, v :: vs, zs => putAll is vs (SlX.putS i v zs)
  | _, _, zs => zs
def gSlots (i0 : Nat) (K : PySem.W.Frag) (cA : Addr) (js : List Nat) : TGs := fun vs σ H Q => ∃ a dx zs, σ[i0]? = some (some (.ref a)) ∧ SlX.Slt H a cA dx zs ∧ dx ≠ a ∧ vs.length = js.length ∧ Q σ (if js = [] then H else SlX.slH H a cA dx (putAll js vs zs))
theorem pgs_slots0 {X : Cx} {cA : Addr} {i0 : Nat} : PGs X [] (gSlots i0 X.K cA []) := by
  refine ⟨fun pins s σ H vs us Q I r ⟨a, dx, zs, e1, e2, e3, e4, q⟩ => pgs_nil.run pins s σ H vs us Q I r ?_⟩
  cases vs with
  | nil => exact ⟨rfl, q⟩
  | cons _ _ => cases e4
theorem pgs_slots1 {X : Cx} {cA : Addr} {i0 j : Nat} {js : List Nat} {e : Expr} {es : List Expr} (h1 : PG X e (gSlot i0 X.K cA j)) (h2 : PGs X es (gSlots i0 X.K cA js)) (hs : (assignEach (e :: es) X.env).map (·.2) = assign e X.env :: (assignEach es X.env).map (·.2) := by rfl) : PGs X (e :: es) (gSlots i0 X.K cA (j :: js)) := by
  refine ⟨fun pins s σ H vs us Q I r ⟨a, dx, zs, e1, e2, e3, e4, q⟩ => (pgs_cons h1 h2 hs).run pins s σ H vs us Q I r ?_⟩
  cases vs with
  | nil => cases e4
  | cons v vs =>
    rw [if_neg (by intro z; cases z)] at q
    refine ⟨v, vs, rfl, a, dx, zs, e1, e2, a, dx, _, e1, SlX.slH_slt e3, e3, by simpa using e4, ?_⟩
    by_cases hj : js = []
    · subst hj
      rw [if_pos rfl]
      cases vs with
      | nil => exact q
      | cons _ _ => cases e4
    · rw [if_neg hj, SlX.slH_twice e3]
      exact q
/-- all the slots from a tuple: js the places in the order of the stores, perm what stands in the places at the end -/
theorem qnew_store {X : Cx} {C : Ctx} {cA : Addr} {ts es : List Expr} {k k2 : Nat} {p1 p2 pos : Pos} {js : List Nat} {fs : Rho → Option (List D)} {gp : List D → Option (List D)} (hc : X.calm = true) (ht : PGs X ts (gSlots 0 X.K cA js)) (ha : QA X C es fs) (hl : es.length = js.length) (hl1 : es.length ≤ 1000) (hj : js ≠ [])
    (hp : ∀ (K : PySem.W.Frag) (F : Addr → Prop) (H : Hp) (ds rs : List D) (vs : List V), gp ds = some rs → RepL K C F H ds vs → ∃ ws, putAll js vs [] = ws.map some ∧ ∀ (F' : Addr → Prop) (H2 : Hp), RepL K C F' H2 rs ws)
    (hn : (assignEach ts X.env).length = js.length := by rfl) (hst : (assignEach ts X.env).findIdx? (·.1) = none := by rfl) (hs : swapsWithSole [.Tuple ts k p1] (.Tuple es k2 p2) pos.line X.env = pure false := by rfl) (hw : swappedStores [.Tuple ts k p1] (.Tuple es k2 p2) X.env = pure none := by rfl)
    (h1 : (assignEach [.Tuple ts k p1] X.env).map (·.2) = [assign (.Tuple ts k p1) X.env] := by rfl) :
    QNew X C cA [.Assign [.Tuple ts k p1] (.Tuple es k2 p2) pos] (fun ρ => (fs ρ).bind gp) := by
  refine ⟨fun pins s σ H Dn I ⟨A, α, ρ, a, dx, rs, sr, e1, e2, e3, q⟩ => (pss_one (ps_asg (pe_tup ha.pa) (pg_tup hc ht hn hst) hs hw h1)).run pins s σ H Dn I ?_⟩
  obtain ⟨ds, e4, e5⟩ := bind_some e3
  have hd : H dx = some (.own a) ∧ dx ≠ a := by obtain ⟨h1, _, h2, _⟩ := (show ObjOk X.prog X.w H s.heap a (.ins cA dx []) from I.hok a _ e2); exact ⟨h1, h2⟩
  refine ⟨A, α, ρ, ds, sr, e4, fun vs H1 g1 r1 => ⟨by rw [← r1.length, ha.len ρ ds e4]; exact line1000 hl1, fun p hp1 => ?_⟩⟩
  have g2 : Gro C H (upd H1 p (.tup vs)) := g1.trans (Gro.new hp1)
  have eA := g2.kp.any e2 (fun _ z => nomatch z)
  have eD := g2.kp.any hd.1 (fun _ z => nomatch z)
  refine ⟨p, vs, rfl, .inl (.inl upd_same), by rw [← r1.length, ha.len ρ ds e4, hl], a, dx, [], e1, .inl ⟨eA, rfl⟩, hd.2, by rw [← r1.length, ha.len ρ ds e4, hl], ?_⟩
  rw [if_neg hj]
  obtain ⟨ws, w1, w2⟩ := hp X.K (Fb A α) (upd H1 p (.tup vs)) ds rs vs e5 (r1.mv (Gro.new (C := C) hp1).mv)
  rw [w1]
  have tb := g2.tb sr.tabs
  refine q _ _ ws g2 (by unfold SlX.slH; rw [upd_same]) (by unfold SlX.slH; rw [upd_ne hd.2, upd_same]) w2 (fun b o n1 n2 z => by rw [SlX.slH_ne n1 n2]; exact z) (fun x hx => ?_) (fun b z => ?_)
  · obtain ⟨ps, t1, t2, t3⟩ := tb x hx
    have k : ∀ b o, upd H1 p (.tup vs) b = some o → (∀ c d f, o ≠ .ins c d f) → (∀ y, o ≠ .own y) → SlX.slH (upd H1 p (.tup vs)) a cA dx (ws.map some) b = some o := fun b o e n1 n2 => by
      rw [SlX.slH_ne (fun z => by rw [z, eA] at e; exact n1 _ _ _ (Option.some.inj e).symm) (fun z => by rw [z, eD] at e; exact n2 _ (Option.some.inj e).symm)]
      exact e
    refine ⟨ps, k _ _ t1 (fun _ _ _ z => nomatch z) (fun _ z => nomatch z), t2, fun pos cv hc => ?_⟩
    obtain ⟨c, q1, q2⟩ := t3 pos cv hc
    exact ⟨c, q1, k _ _ q2 (fun _ _ _ z => nomatch z) (fun _ z => nomatch z)⟩
  · by_cases n1 : b = a
    · rw [n1] at z; unfold SlX.slH at z; rw [upd_same] at z; cases z
    · by_cases n2 : b = dx
      · rw [n2] at z; unfold SlX.slH at z; rw [upd_ne hd.2, upd_same] at z; cases z
      · rw [SlX.slH_ne n1 n2] at z; exact g2.nn b z
section
variable {P : Program} {w : World} {K : PySem.W.Frag} {mg : Str → Option Value} {base : Heap} {x qual : Str} {params : Arguments} {body : List Stmt} {scope : Scope} {dvs : List V} {kws : List (Str × V)} {f : Addr} {fd : FuncData} {N ps : List Str} {k : Nat} {C : Ctx} {cA : Addr} {g : Rho → Option (List D)}
/-- what an __init__ makes of its arguments -/
def runNew (n c : Nat) (g : Rho → Option (List D)) : List D → Option (List D) := fun ds => g (start0 n (.obj c [] :: ds))
theorem fn_okNew {c : Nat} (hoc : C.oc c = some cA) (F : FunD K x qual params body scope dvs kws f fd) (S : FnScope N ps scope) {n : Nat} (hp : ps.length = n + 1) (hl : ps.length ≤ N.length)
    (hb : ∀ (cdv : Value) (Ar : Around) (outer : List Env) (s : Shared) (H : Hp) (E : XK), cdv = .ref (codeAt K f) → RoomG k (Ar.deeper (envOfC qual scope s.heap.objs.size f cdv)) → QNew (cxOf C8.CX0 P w K mg base N qual scope f cdv Ar outer s H E) C cA body g) :
    FnOkG P w K mg base C8.CX0 (k + 1) f fd ps (spNew K C n cA (runNew N.length c g)) := by
  refine funD_okG F S (fun vs H Q E h => ?_) (fun cdv Ar outer s H vs Q E hcv hr h => ⟨_, hb cdv Ar outer s H E hcv hr, ?_⟩)
  · obtain ⟨Fo, ds, a, dx, vs', rfl, _, _, _, _, r, e, _⟩ := h
    rw [List.length_cons, ← r.length, e, hp]
  · obtain ⟨Fo, ds, a, dx, vs', rfl, e2, nf, dm, tb, r, e, q⟩ := h
    have rr : RepL K C Fo H (.obj c [] :: ds) (.ref a :: vs') := .cons (.raw hoc e2 nf) r
    have hle : (D.obj c [] :: ds).length ≤ N.length := by rw [List.length_cons, e]; omega
    have sr := sr_start dm tb rr hle
    cases hg : runNew N.length c g ds with
    | none => rw [hg] at q; exact q.elim
    | some rs =>
      rw [hg] at q
      refine ⟨Fo, _, _, a, dx, rs, sr, ?_, e2, hg, fun H0 H' ws g0 a1 a2 a3 a4 a5 a6 => ?_⟩
      · unfold L2.start; rfl
      · exact q H' ws a1 a2 (a3 _ _) (fun b o n1 n2 z nt => a4 b o n1 n2 (g0.kp.any z nt)) a5 a6
end
/-! ### the call -/
def scD : D → Bool
  | .non => true
  | .bl _ => true
  | .int _ => true
  | .str _ => true
  | _ => false
theorem scD_rep {K : PySem.W.Frag} {C : Ctx} {F : Addr → Prop} {H : Hp} {d : D} {v : V} (h : scD d = true) (r : Rep K C F H d v) : ∀ (F' : Addr → Prop) (H2 : Hp), Rep K C F' H2 d v := fun F' H2 => by
  cases d with
  | non => cases r; exact .non
  | bl b => cases r; exact .bl b
  | int i => cases r; exact .int i
  | str x => cases r; exact .str x
  | _ => cases h
/-- four slots, stored in the order 0, 1, 3, 2 -/
def perm0132 : List D → Option (List D)
  | [a, b, c, d] => if (scD a && scD b && scD c && scD d) = true then some [a, b, d, c] else none
  | _ => none
theorem hp_0132 {C : Ctx} (K : PySem.W.Frag) (F : Addr → Prop) (H : Hp) (ds rs : List D) (vs : List V) (h : perm0132 ds = some rs) (r : RepL K C F H ds vs) : ∃ ws, putAll [0, 1, 3, 2] vs [] = ws.map some ∧ ∀ (F' : Addr → Prop) (H2 : Hp), RepL K C F' H2 rs ws := by
  unfold perm0132 at h
  split at h
  · split at h
    · rename_i e
      cases h
      simp only [Bool.and_eq_true] at e
      obtain ⟨⟨⟨s1, s2⟩, s3⟩, s4⟩ := e
      cases r with
      | @cons _ _ v1 _ r1 r => cases r with
        | @cons _ _ v2 _ r2 r => cases r with
          | @cons _ _ v3 _ r3 r => cases r with
            | @cons _ _ v4 _ r4 r =>
              cases r
              exact ⟨[v1, v2, v4, v3], rfl, fun F' H2 => .cons (scD_rep s1 r1 _ _) (.cons (scD_rep s2 r2 _ _) (.cons (scD_rep s4 r4 _ _) (.cons (scD_rep s3 r3 _ _) .nil)))⟩
    · cases h
  · cases h
/-- C(..) can be made: F what its __init__ leaves in the slots -/
structure GC (P : Program) (w : World) (K : PySem.W.Frag) (mg : Str → Option Value) (base : Heap) (C : Ctx) (x : Str) (cA : Addr) (k n : Nat) (F : List D → Option (List D)) : Prop where
  ex : ∃ (fd : FuncData) (ps : List Str), FnOkG P w K mg base C8.CX0 k (He.ma K cA "__init__") fd ps (spNew K C n cA F) ∧ L2.Binds K fd ps []
  mkr : Mk K cA (He.ma K cA "__init__")
  hm : mg x = some (.ref cA)
section
variable {X : Cx} {C : Ctx} {c k n : Nat} {cA : Addr} {x : Str} {p pos : Pos} {e : Expr} {es : List Expr} {F : List D → Option (List D)} {fs : Rho → Option (List D)}
theorem RoomG.make {k : Nat} {A : Around} (r : RoomG (k + 1) A) (C : Addr) (us : List Value) (kw : List (Str × Value)) : RoomG k (A.under (.builtin "type.__call__" ⟨.ref C :: us, kw⟩)) := ⟨r.toRoom.make C us kw, r.gd⟩
theorem run_makeG {CX : CXT} {f : Addr} {fd : FuncData} {ps : List Str} {sp : Sp} {dvs : List V} {dds : List Value} {E : XK} {pins : List (Addr × Obj)} {σ : L2.St} {H : Hp} {s : Shared} {Q : VK} {us : List Value} {vs : List V} (M : Mk X.K cA f) (F : FnOkG X.prog X.w X.K X.mg X.base CX k f fd ps sp) (hr : RoomG (k + 1) X.A) (hb : L2.Binds X.K fd ps dds) (hd : Vals dvs dds)
    (hx : Passes CX X E) (I : Inv X pins σ H s) (r : Vals vs us)
    (h : ∀ x dx, H x = none → H dx = none → dx ≠ x → sp (.ref x :: (vs ++ dvs)) (upd (upd H dx (.own x)) x (.ins cA dx [])) (fun v H2 => v = .non ∧ Q (.ref x) H2) E) :
    wpAny (model X.prog X.w) X.A (call (.ref cA) us) (EP X pins σ Q) X.xe s := by
  have hq := h (s.heap.objs.size + 1) s.heap.objs.size (I.hok.fresh (Nat.le_succ _)) (I.hok.fresh (Nat.le_refl _)) (Nat.ne_of_lt (Nat.lt_succ_self _))
  have I2 := Inv.made (C := cA) I
  have r2 : Vals (V.ref (s.heap.objs.size + 1) :: (vs ++ dvs)) (Value.ref (s.heap.objs.size + 1) :: (us ++ dds)) := .cons rfl (r.append hd)
  have hl : (Value.ref (s.heap.objs.size + 1) :: us ++ dds).length = ps.length := by
    have e := r2.length
    rw [F.len _ _ _ _ hq] at e
    exact e.symm
  refine wpAny_call (make_map (f := f) I.kIn M.makes M.init (beq_iff_eq.mp M.fn) (codeAny_mono (F.run _ X.stack _ _ ⟨Value.ref (s.heap.objs.size + 1) :: us, []⟩ (Value.ref (s.heap.objs.size + 1) :: (us ++ dds)) _ _ E (hr.make cA us [])
    (I2.env0.make cA us []) (hb _ (Value.ref (s.heap.objs.size + 1) :: us) I2.kIn hl) r2 hq) fun r s' hq' => ?_))
  cases r with
  | error e => exact hx pins σ _ _ e s' I2 hq'
  | ok fl =>
    cases fl with
    | ret u =>
      obtain ⟨v, H', I3, rv, ev, q3⟩ := I2.after hq'
      subst ev
      exact ⟨rv, ⟨V.ref (s.heap.objs.size + 1), H', I3, rfl, q3⟩⟩
    | next => exact False.elim hq'
    | brk => exact False.elim hq'
    | cont => exact False.elim hq'
theorem qe_make (hoc : C.oc c = some cA) (G : GC X.prog X.w X.K X.mg X.base C x cA k n F) (hr : RoomG (k + 1) X.A) (hg : Gl X x) (ha : QA X C (e :: es) fs) (hn : (e :: es).length = n := by rfl)
    (hdb : (x == ("__debug__" : Str)) = false := by decide) (he : starEach (e :: es) X.env = (false, eval e X.env) :: starEach es X.env := by rfl) (hpl : (backTo pos (starEach es X.env)).any (·.1) = false := by rfl) :
    QE X C (.Call (.Name x p) (e :: es) [] pos) (fun ρ => (fs ρ).bind fun ds => (F ds).map (D.obj c)) := ⟨fun pins s σ H Q I ⟨A, α, ρ, d, sr, ee, q⟩ => by
  obtain ⟨ds, e1, ee⟩ := bind_some ee
  simp only [Option.map_eq_some_iff] at ee
  obtain ⟨rs, e2, rfl⟩ := ee
  obtain ⟨fd, ps, Fn, hb⟩ := G.ex
  refine wpAny_Call_Name_kw (ld_glob I hg G.hm ?_ hdb)
  refine PySem.W.callWith_K (h₀ := X.base) I.ok.mod.kin G.mkr.kp (thn (ha.pa.run pos pins s σ H (fun vs H1 => Gro C H H1 ∧ RepL X.K C (Fb A α) H1 ds vs) I ⟨A, α, ρ, ds, sr, e1, fun vs H1 g r => ⟨g, r⟩⟩) fun us s1 ⟨vs, H1, I1, r, g1, r1⟩ => ⟨I1.kIn, ?_⟩) he hpl
  refine run_makeG G.mkr Fn hr hb .nil (fun pins σ H s e s' h => (C8.pass0 (E := C8.E0)) pins σ H s e s' h) I1 r fun a dx n1 n2 ne => ?_
  have s2 := sr.grow g1
  have g2 : Gro C H1 (upd (upd H1 dx (.own a)) a (.ins cA dx [])) := (Gro.new n2).trans (Gro.new (by rw [upd_ne (Ne.symm ne)]; exact n1))
  rw [List.append_nil]
  show spNew X.K C n cA F (.ref a :: vs) (upd (upd H1 dx (.own a)) a (.ins cA dx [])) (fun v H2 => v = .non ∧ Q (.ref a) H2) C8.E0
  · refine ⟨Fb A α, ds, a, dx, vs, rfl, upd_same, s2.new n1, (s2.grow g2).dm, (s2.grow g2).tabs, r1.mv g2.mv, by rw [ha.len ρ ds e1]; exact hn, ?_⟩
    rw [e2]
    refine fun H' ws h1 h2 h3 h4 h5 h6 => ⟨rfl, ?_⟩
    have up : ∀ b o, b ≠ a → b ≠ dx → H1 b = some o → upd (upd H1 dx (.own a)) a (.ins cA dx []) b = some o := fun b o m1 m2 z => by rw [upd_ne m1, upd_ne m2]; exact z
    have g3 : Gro C H1 H' := ⟨fun b o z nt => by
      have m1 : b ≠ a := ne_of_none z n1
      have m2 : b ≠ dx := ne_of_none z n2
      have nt' : NT o := by
        rcases nt with nt | nt
        · exact nt.2
        · intro ps zz; rw [zz] at nt; exact nt
      exact h4 b o m1 m2 (up b o m1 m2 z) nt', fun _ => h5, fun b z => by
      have z1 := h6 b z
      by_cases m1 : b = a
      · rw [m1]; exact n1
      · by_cases m2 : b = dx
        · rw [m2]; exact n2
        · rw [upd_ne m1, upd_ne m2] at z1; exact z1⟩
    exact q _ _ (g1.trans g3) (.obj hoc h1 (s2.new n2) h2 h3)⟩
end
end VL
end
section
set_option Elab.async false
set_option linter.all false
set_option maxRecDepth 100000
set_option maxHeartbeats 2000000
/-! VL38: the head's facts on slotted classes; the hook with getters. -/
namespace VL
open PySem PySem.Spec L2
open PyProof.Rows hiding St
section
variable {K : PySem.W.Frag} {C : Addr} {f : Str} {i : Nat}
def clsOk (K : PySem.W.Frag) (C : Addr) : Bool := PySem.W.plainGet K C Str.empty && (PySem.W.isClsIn K C && (PySem.W.plainOver K C && He.eqO (PySem.W.findIn K (.ref C) "__setattr__") (some (some (.builtin "object.__setattr__")))))
theorem clsOk_ok (h : clsOk K C = true) : SlX.SCls K C := by
  obtain ⟨h1, h⟩ := He.ba h
  obtain ⟨h2, h⟩ := He.ba h
  obtain ⟨h3, h4⟩ := He.ba h
  exact ⟨h1, h2, h3, He.eqO_ok h4⟩
def slotOk (K : PySem.W.Frag) (C : Addr) (f : Str) (i : Nat) : Bool := He.eqO (PySem.W.findIn K (.ref C) f) (some (some (.ref (He.ma K C f)))) && (He.eqO (PySem.W.specialIn K (.ref (He.ma K C f)) "__get__") (some (some (.builtin "member_descriptor.__get__"))) &&
  (decide (PySem.W.takesIn K (.ref (He.ma K C f)) = some true) && (decide (PySem.W.typeIn K (.ref (He.ma K C f)) = some (.type "member_descriptor")) && (decide (PySem.W.slotIn K (He.ma K C f) C = some i) && decide (i < 1000)))))
theorem slotOk_ok (h : slotOk K C f i = true) : SlX.Slot1 K C f (He.ma K C f) i := by
  obtain ⟨h1, h⟩ := He.ba h
  obtain ⟨h2, h⟩ := He.ba h
  obtain ⟨h3, h⟩ := He.ba h
  obtain ⟨h4, h⟩ := He.ba h
  obtain ⟨h5, h6⟩ := He.ba h
  exact ⟨He.eqO_ok h1, He.eqO_ok h2, of_decide_eq_true h3, of_decide_eq_true h4, of_decide_eq_true h5, of_decide_eq_true h6⟩
def propOk (K : PySem.W.Frag) (C : Addr) (f : Str) : Bool := He.eqO (PySem.W.findIn K (.ref C) f) (some (some (.ref (He.ma K C f)))) && (He.eqO (PySem.W.specialIn K (.ref (He.ma K C f)) "__get__") (some (some (.builtin "property.__get__"))) &&
  (decide (PySem.W.takesIn K (.ref (He.ma K C f)) = some true) && (match PySem.W.recIn K (He.ma K C f) "property" with
    | some (.ref _ :: _) => true
    | _ => false)))
theorem propOk_ok (h : propOk K C f = true) : PySem.W.findIn K (.ref C) f = some (some (.ref (He.ma K C f))) ∧ PySem.W.specialIn K (.ref (He.ma K C f)) "__get__" = some (some (.builtin "property.__get__")) ∧ PySem.W.takesIn K (.ref (He.ma K C f)) = some true ∧
    ∃ rest, PySem.W.recIn K (He.ma K C f) "property" = some (.ref (gtA K (He.ma K C f)) :: rest) := by
  obtain ⟨h1, h⟩ := He.ba h
  obtain ⟨h2, h⟩ := He.ba h
  obtain ⟨h3, h4⟩ := He.ba h
  refine ⟨He.eqO_ok h1, He.eqO_ok h2, of_decide_eq_true h3, ?_⟩
  unfold gtA
  split at h4
  · rename_i g rest e
    exact ⟨rest, by rw [e]⟩
  · cases h4
def methOk (K : PySem.W.Frag) (C : Addr) (f : Str) : Bool := He.eqO (PySem.W.findIn K (.ref C) f) (some (some (.ref (He.ma K C f)))) && (PySem.W.isFn K (.ref (He.ma K C f)) && PySem.W.keepIn K (.ref (He.ma K C f)))
theorem methOk_ok (h : methOk K C f = true) : Meth K C f (He.ma K C f) := by
  obtain ⟨h1, h⟩ := He.ba h
  obtain ⟨h2, h3⟩ := He.ba h
  exact ⟨He.eqO_ok h1, h2, h3⟩
def mkOk (K : PySem.W.Frag) (C : Addr) : Bool := PySem.W.makesIn K C && (He.eqO (PySem.W.findIn K (.ref C) "__init__") (some (some (.ref (He.ma K C "__init__")))) && (PySem.W.isFn K (.ref (He.ma K C "__init__")) && PySem.W.keepIn K (.ref C)))
theorem mkOk_ok (h : mkOk K C = true) : Mk K C (He.ma K C "__init__") := by
  obtain ⟨h1, h⟩ := He.ba h
  obtain ⟨h2, h⟩ := He.ba h
  obtain ⟨h3, h4⟩ := He.ba h
  exact ⟨h1, He.eqO_ok h2, h3, h4⟩
def isiOk (K : PySem.W.Frag) (C : Addr) : Bool := He.eqO (PySem.W.findIn K (.ref C) "__class__") (some (some (.builtin "object.__class__"))) && (He.eqO (PySem.W.specialIn K (.builtin "object.__class__") "__get__") (some (some (.builtin "getset_descriptor.__get__"))) &&
  (decide (PySem.W.takesIn K (.builtin "object.__class__") = some true) && (decide (PySem.W.mroIn K C (.type "object") = some true) && (decide (PySem.W.kitOne K (.ref C) (.ref C) = some true) &&
  (["NoneType", "bool", "int", "str", "tuple", "list", "dict"] : List String).all fun T => decide (PySem.W.kitOne K (.type T) (.ref C) = some false)))))
theorem isiOk_ok (hc : clsOk K C = true) (h : isiOk K C = true) : IsiC K C := by
  obtain ⟨h1, h⟩ := He.ba h
  obtain ⟨h2, h⟩ := He.ba h
  obtain ⟨h3, h⟩ := He.ba h
  obtain ⟨h4, h⟩ := He.ba h
  obtain ⟨h5, h6⟩ := He.ba h
  exact ⟨clsOk_ok hc, ⟨He.eqO_ok h1, He.eqO_ok h2, of_decide_eq_true h3, of_decide_eq_true h4⟩, of_decide_eq_true h5, fun T hT => of_decide_eq_true (List.all_eq_true.mp h6 T hT)⟩
end
/-! ### getters seen -/
def gAd (K : PySem.W.Frag) (p : Str × Option Str) : Addr := gtA K (He.fAd K p)
def fnG (K : PySem.W.Frag) (p : Str × Option Str) : He.FnW := match K.lookup (gAd K p) with
  | some ⟨_, _, .func fd, _⟩ => some (fd.name, fd.qualname, fd.params, fd.body, fd.scope, fd.globals, fd.closure, fd.builtins)
  | _ => none
def gOk (K : PySem.W.Frag) (d : He.DefD) : Bool := PySem.W.keepIn K (.ref (gAd K d.at_)) && (match K.lookup (gAd K d.at_) with
  | some ⟨_, _, .func fd, _⟩ => PySem.W.codeIn K fd.code d.qual && (He.dflB K fd.defaults (d.dvs K) && He.kwdB K fd.kwdefaults (d.kws K))
  | _ => false)
theorem gfunD {K : PySem.W.Frag} {d : He.DefD} (e : fnG K d.at_ = d.val) (c : gOk K d = true) : ∃ fd, FunD K d.name d.qual d.params d.body d.scope (d.dvs K) (d.kws K) (gAd K d.at_) fd := by
  obtain ⟨kp, c2⟩ := He.ba c
  unfold fnG at e
  cases q : K.lookup (gAd K d.at_) with
  | none =>
    rw [q] at c2
    cases c2
  | some o =>
    obtain ⟨oc, od, dt, osl⟩ := o
    rw [q] at c2 e
    cases dt with
    | func fd =>
      obtain ⟨n1, n2, n3, n4, n5, n6, n7, n8, n9, n10, n11, n12, n13, n14, n15⟩ := fd
      have e2 : (some (n1, n2, n3, n4, n5, n6, n7, n15) : He.FnW) = some (d.name, d.qual, d.params, .stmts d.body, d.scope, mainGlobals, [], builtinsNs) := e
      simp only [Option.some.injEq, Prod.mk.injEq] at e2
      obtain ⟨h1, h2, h3, h4, h5, h6, h7, h8⟩ := e2
      subst h1 h2 h3 h4 h5 h6 h7 h8
      have c3 : (PySem.W.codeIn K n13 d.qual && (He.dflB K n8 (d.dvs K) && He.kwdB K n9 (d.kws K))) = true := c2
      obtain ⟨k1, k2⟩ := He.ba c3
      obtain ⟨k3, k4⟩ := He.ba k2
      exact ⟨_, ⟨oc, od, n8, n9, n10, n11, n12, n13, n14, osl, rfl, q, k1, He.dflB_ok k3, He.kwdB_ok k4⟩, kp⟩
    | _ => cases c2
abbrev AlG : Type := AlV × List He.FnW
section
variable (n : Nat) (fa : List He.Fa) (fn : List He.DefD) (ts : List He.Tab) (tf : List He.Defn) (ex : PySem.W.Frag → Bool) (sd : List SupD) (gd : List He.DefD)
def obsG (g : Addr → Option Obj) : AlG := (obsV n fa fn ts tf ex sd g, gd.map fun d => fnG (frV n g) d.at_)
def valG (w : World) : AlG := (valV fn ts sd w, gd.map He.DefD.val)
theorem saysG_of {w : World} {h : Heap} (e : obsG n fa fn ts tf ex sd gd h.get? = valG fn ts sd gd w) : He.SaysX fa fn ts tf ex w h (frV n h.get?) ∧ (∀ d ∈ sd, d.obs (frV n h.get?) = d.val) ∧ ∀ d ∈ gd, fnG (frV n h.get?) d.at_ = d.val := by
  obtain ⟨a, b⟩ := saysV_of n fa fn ts tf ex sd (congrArg (fun z : AlG => z.1) e)
  exact ⟨a, b, fun d hd => List.map_inj_left.mp (congrArg (fun z : AlG => z.2) e : (gd.map fun d => fnG (frV n h.get?) d.at_) = gd.map He.DefD.val) d hd⟩
def hookG : PySem.W.Hook where
  α := AlG
  obs := fun s => obsG n fa fn ts tf ex sd gd s.heap.get?
  val := fun w => valG fn ts sd gd w
  says := fun w h => ∃ K : PySem.W.Frag, K.In h ∧ He.SaysX fa fn ts tf ex w h K ∧ (∀ d ∈ sd, d.obs K = d.val) ∧ ∀ d ∈ gd, fnG K d.at_ = d.val
  of := fun _ _ e => ⟨_, He.frT_in, saysG_of _ _ _ _ _ _ _ _ e⟩
  keeps := fun _ _ _ ⟨K, hK, c, o, g⟩ k => ⟨K, PySem.W.Frag.In.keeps hK k, ⟨c.t, c.more, c.hd, c.out, fun p hp => k _ _ (c.empty p hp)⟩, o, g⟩
theorem obsG_eq {g : Addr → Option Obj} {s : Shared} (h : ∀ a, g a = s.heap.get? a) : obsG n fa fn ts tf ex sd gd g = (hookG n fa fn ts tf ex sd gd).obs s := by
  have e : g = s.heap.get? := funext h
  rw [e] <;> rfl
end
end VL
end
section
set_option Elab.async false
set_option linter.all false
set_option maxRecDepth 100000
set_option maxHeartbeats 2000000
/-! VL39: tuples of which it is known that they bear no dict (their methods can be called); count, index. -/
namespace VL
open PySem PySem.Spec L2
open PyProof.Rows hiding St
section
variable {X : Cx} {C : Ctx} {es : List Expr} {e a : Expr} {pos p : Pos} {fs : Rho → Option (List D)} {fa : Rho → Option D}
theorem frzT_ok {H : Hp} {h : Heap} {its : List Value} {xs : List V} {p : Addr} {P : Program} {w : World} (z : xs.length ≤ sizeLine) (r : Vals xs its) (e : h.get? p = some { cls := .type "tuple", data := .seq its.toArray }) : ObjOk P w H h p (.frz { cls := .type "tuple", data := .seq its.toArray } (.tup xs)) :=
  ⟨e, z, its, r, ⟨_, e, rfl, _, rfl⟩⟩
theorem qe_tupX {x1} (h : QA X C es fs) (hl : es.length ≤ 1000 := by decide) : QE X C (.Tuple es x1 pos) (fun ρ => (fs ρ).map D.tupx) := ⟨fun pins s σ H Q I ⟨A, α, ρ, d, sr, e, q⟩ => by
  simp only [Option.map_eq_some_iff] at e
  obtain ⟨ds, e, rfl⟩ := e
  refine wpAny_Tuple_spliced (thn (h.pa.run pos pins s σ H (fun vs H1 => Gro C H H1 ∧ RepL X.K C (Fb A α) H1 ds vs) I ⟨A, α, ρ, ds, sr, e, fun vs H1 g r => ⟨g, r⟩⟩) fun us s1 ⟨xs, H1, I1, r, g1, r1⟩ => ?_)
  have z : xs.length ≤ sizeLine := by
    rw [← r1.length, h.len ρ ds e]
    exact line1000 hl
  refine ⟨by rw [← r.length]; exact z, ?_⟩
  have hf : H1 s1.heap.objs.size = none := I1.hok.fresh (Nat.le_refl _)
  have e2 : (s1.heap.push { cls := .type "tuple", data := .seq us.toArray }).get? s1.heap.objs.size = some { cls := .type "tuple", data := .seq us.toArray } := Heap.get?_push_size _ rfl
  refine ⟨.ref s1.heap.objs.size, _, I1.laid (t' := s1.toks) (o := .frz { cls := .type "tuple", data := .seq us.toArray } (.tup xs)) (fun b u e => Heap.get?_push_of_some _ e) (Nat.le_refl _) (frzT_ok z r e2), rfl, ?_⟩
  have g2 : Gro C H1 (upd H1 s1.heap.objs.size (.frz { cls := .type "tuple", data := .seq us.toArray } (.tup xs))) := Gro.new hf
  exact q _ _ (g1.trans g2) (.tupx upd_same rfl (r1.mv g2.mv))⟩
def tupleX : List D → Option D
  | [.lst xs] => some (.tupx xs)
  | _ => none
/-- tuple(l) -/
theorem bq_tupleX : BQ X C (.type "tuple") tupleX := by
  intro pins s σ H xs us Q I r h
  obtain ⟨F, ds, d, dm, rs, e, q⟩ := h
  unfold tupleX at e
  split at e
  · cases e
    obtain ⟨v, rfl, r1⟩ := rs.one
    obtain ⟨a, ws, rfl, l, p⟩ := r1.lstI
    obtain ⟨u, rfl, rx⟩ := vals1 r
    cases rx
    obtain ⟨its, r', pl, hz⟩ := I.list l
    have hlen := r'.length
    refine call_tuple_list pl.isList (fun h' kp => ?_) (by simp only [List.size_toArray] <;> omega)
    have I1 : Inv X pins σ H { s with heap := h' } := I.kept (t' := s.toks) kp
    have hf : H h'.objs.size = none := I1.hok.fresh (Nat.le_refl _)
    have e2 : (h'.push { cls := .type "tuple", data := .seq its.toArray }).get? h'.objs.size = some { cls := .type "tuple", data := .seq its.toArray } := Heap.get?_push_size _ rfl
    have I2 : Inv X pins σ (upd H h'.objs.size (.frz { cls := .type "tuple", data := .seq its.toArray } (.tup ws))) { s with heap := h'.push { cls := .type "tuple", data := .seq its.toArray } } :=
      I1.laid (t' := s.toks) (fun b o e => Heap.get?_push_of_some _ e) (Nat.le_refl _) (frzT_ok hz r' e2)
    have g2 : Gro C H (upd H h'.objs.size (.frz { cls := .type "tuple", data := .seq its.toArray } (.tup ws))) := Gro.new hf
    exact ⟨.ref h'.objs.size, _, I2, rfl, q _ _ g2 (.tupx upd_same rfl (p.mv g2.mv))⟩
  · cases e
end
/-! ### methods of lists and tuples -/
section
variable {X : Cx} {C : Ctx} {o e : Expr} {es : List Expr} {apos cpos : Pos} {name : Str} {T id : String} {to : TE} {t : TA} {r : V → List V → Hp → VK → Prop}
/-- o.m(e, ..), the receiver's type shown where it stands -/
def tBG (X : Cx) (T : String) (r : V → List V → Hp → VK → Prop) (to : TE) (t : TA) : TE := fun σ H Q => to σ H fun x H1 => (∀ (pins : List (Addr × Obj)) (s : Shared) (u : Value), Inv X pins σ H1 s → RelV x u → s.TypeIs u T ∧ ∀ a, u = .ref a → ∃ ob, s.heap.get? a = some ob ∧ ob.dict = none) ∧ t σ H1 fun vs H2 => r x vs H2 Q
theorem pe_bmG (pa : PlainAttrs T) (slot : Slot T name id) (hty : typeOf (.builtin id) = pure (.type "method_descriptor")) (hm : MtR X id r) (ho : PE X o to) (ha : PA X (e :: es) t)
    (hbase : attributeBase o name X.env (eval o X.env) = eval o X.env := by rfl)
    (hfew : ((backTo cpos (starEach (e :: es) X.env)).all (fun x => !x.1) && (backToKw cpos (keywordEach [] X.env)).all (fun x => x.1.isSome)
      && decide ((e :: es).length + ([] : List Keyword).length + (if ([] : List Keyword).isEmpty then 0 else 1) < 30)) = true := by rfl)
    (hline : (apos.endLine == cpos.line) = true := by rfl) (hs : starEach (e :: es) X.env = (false, eval e X.env) :: starEach es X.env := by rfl) (hplain : (backTo cpos (starEach es X.env)).any (·.1) = false := by rfl) :
    PE X (.Call (.Attribute o name apos) (e :: es) [] cpos) (tBG X T r to t) := by
  refine ⟨fun pins s σ H Q I h => ?_⟩
  refine wpAny_Call_method_late hbase hfew hline rfl (thn (ho.run pins s σ H _ I h) fun v s1 ⟨x, H1, I1, r1, ty, q1⟩ => ?_)
  obtain ⟨h1, h2⟩ := ty pins s1 v I1 r1
  refine ⟨T, id, pa, slot, hty, h1, h2, ?_⟩
  have hA := ha.run cpos pins s1 σ H1 _ I1 q1
  rw [hs] at hA ⊢
  refine Calls.callWith_builtin (by show (false || (backTo cpos (starEach es X.env)).any (·.1)) = false; rw [hplain] <;> rfl) (Calls.evalArgs_plain ?_)
  exact thn hA fun us s2 ⟨vs, H2, I2, r2, q2⟩ => hm pins s2 σ H2 x vs v us Q I2 r1 r2 q2
end
def cntOk (xs : List D) (d : D) : Bool := cmpOk d (.lst xs)
def cntD (xs : List D) (d : D) : Option D := if cntOk xs d = true then some (.int (xs.countP fun z => z.eq d)) else none
theorem countP_PL (d : D) : ∀ es : List D, (D.PL es).countP (fun z => PyData.eqv z d.P) = es.countP fun z => z.eq d
  | [] => rfl
  | e :: es => by
    rw [D.PL, List.countP_cons, List.countP_cons, countP_PL d es]
    rfl
def rCnt (K : PySem.W.Frag) (C : Ctx) (f : List D → D → Option D) (S : Hp → Addr → List V → Prop) : V → List V → Hp → VK → Prop := fun x vs H Q => ∃ a ws v xs d r F, x = .ref a ∧ vs = [v] ∧ S H a ws ∧ RepL K C F H xs ws ∧ Rep K C F H d v ∧ f xs d = some r ∧ ∀ z, Rep K C F H r z → Q z H
section
variable {X : Cx} {C : Ctx}
theorem readsL {pins : List (Addr × Obj)} {σ : L2.St} {H : Hp} {s : Shared} {F : Addr → Prop} (I : Inv X pins σ H s) : ∀ {ds : List D} {vs : List V} {us : List Value}, RepL X.K C F H ds vs → PyData.canLayAll0 (D.PL ds) = true → Vals vs us → ∃ as, ReadsAll s.heap us (D.PL ds) as := fun {ds vs us} r c rv => by
  have h := RepL.dp r c
  exact Dp.readsAll I (D.PL ds) vs us h rv
theorem mt_countT (hu : X.A.units + 70 < cLine) : MtR X "tuple.count" (rCnt X.K C cntD (SqT X.K)) := by
  intro pins s σ H x xs v us Q I rx rv h
  obtain ⟨a, ws, y, ds, d, r, F, rfl, rfl, l, p, rd, e, q⟩ := h
  cases rx
  obtain ⟨u, rfl, ru⟩ := vals1 rv
  obtain ⟨c, rfl⟩ := if_some e
  obtain ⟨c1, c2, c3⟩ := cmpOk_ok c
  obtain ⟨its, r', pl, hz⟩ := I.tuple l
  have c2' : PyData.canLayAll0 (D.PL ds) = true := by simpa only [D.P, PyData.canLay0] using c2
  obtain ⟨as, h1⟩ := readsL I p c2' r'
  obtain ⟨bs, h2⟩ := Dp.reads I d.P y u (rd.dp c1) ru
  have c4 : min d.P.depth (PyData.depthAll (D.PL ds) + 1) ≤ 64 := by simpa only [D.P, PyData.depth] using c3
  refine SeqAt.count_tuple_data (vs := its.toArray) pl (by simpa using h1) h2 (PyData.plainAll_of_canLay0 _ c2') (PyData.plain_of_canLay0 _ c1) (by omega) ?_
  rw [countP_PL]
  exact ⟨.int _, H, I.tok _, ⟨_, rfl⟩, q _ (.int _)⟩
theorem mt_countL (hu : X.A.units + 70 < cLine) : MtR X "list.count" (rCnt X.K C cntD (SqL X.K)) := by
  intro pins s σ H x xs v us Q I rx rv h
  obtain ⟨a, ws, y, ds, d, r, F, rfl, rfl, l, p, rd, e, q⟩ := h
  cases rx
  obtain ⟨u, rfl, ru⟩ := vals1 rv
  obtain ⟨c, rfl⟩ := if_some e
  obtain ⟨c1, c2, c3⟩ := cmpOk_ok c
  obtain ⟨its, r', pl, hz⟩ := I.list l
  have c2' : PyData.canLayAll0 (D.PL ds) = true := by simpa only [D.P, PyData.canLay0] using c2
  obtain ⟨as, h1⟩ := readsL I p c2' r'
  obtain ⟨bs, h2⟩ := Dp.reads I d.P y u (rd.dp c1) ru
  have c4 : min d.P.depth (PyData.depthAll (D.PL ds) + 1) ≤ 64 := by simpa only [D.P, PyData.depth] using c3
  refine SeqAt.count_list_data (vs := its.toArray) pl.isList (by simpa using h1) h2 (PyData.plainAll_of_canLay0 _ c2') (PyData.plain_of_canLay0 _ c1) (by omega) ?_
  rw [countP_PL]
  exact ⟨.int _, H, I.tok _, ⟨_, rfl⟩, q _ (.int _)⟩
end
/-- o.count(e), o a list or a tuple that bears no dict -/
def cntX : D → D → Option D
  | .tupx xs, d => cntD xs d
  | .lst xs, d => cntD xs d
  | _, _ => none
section
variable {X : Cx} {C : Ctx} {o e : Expr} {apos cpos : Pos} {fa fx : Rho → Option D}
theorem pe_or {ex : Expr} {t t' : TE} (h : PE X ex t) (h' : PE X ex t') : PE X ex (fun σ H Q => t σ H Q ∨ t' σ H Q) := ⟨fun pins s σ H Q I q => q.elim (h.run pins s σ H Q I) (h'.run pins s σ H Q I)⟩
theorem qe_count (hu : X.A.units + 70 < cLine) (ho : BE X C o fa) (hx : QE X C e fx) (hbase : attributeBase o "count" X.env (eval o X.env) = eval o X.env := by rfl)
    (hfew : ((backTo cpos (starEach [e] X.env)).all (fun x => !x.1) && (backToKw cpos (keywordEach [] X.env)).all (fun x => x.1.isSome)
      && decide ([e].length + ([] : List Keyword).length + (if ([] : List Keyword).isEmpty then 0 else 1) < 30)) = true := by rfl)
    (hline : (apos.endLine == cpos.line) = true := by rfl) (hs : starEach [e] X.env = (false, eval e X.env) :: starEach [] X.env := by rfl) (hplain : (backTo cpos (starEach [] X.env)).any (·.1) = false := by rfl) :
    QE X C (.Call (.Attribute o "count" apos) [e] [] cpos) (q2 cntX fa fx) :=
  wkE (pe_or (pe_bmG F.plainAttrs_tuple F.slot_tuple_count F.type_tuple_count (mt_countT (C := C) hu) ho (pa_cons hx pa_nil hs) hbase hfew hline hs hplain) (pe_bmG F.plainAttrs_list F.slot_list_count F.type_list_count (mt_countL (C := C) hu) ho (pa_cons hx pa_nil hs) hbase hfew hline hs hplain)) fun σ H Q ⟨A, α, ρ, d, sr, e, q⟩ => by
    obtain ⟨x, e1, e⟩ := bind_some e
    obtain ⟨y, e2, e⟩ := bind_some e
    unfold cntX at e
    split at e
    · refine .inl ⟨A, α, ρ, _, sr, e1, fun v H1 g1 r1 => ?_⟩
      obtain ⟨a, ws, rfl, l, p, o, ho, hd⟩ := (r1.notL fun _ z => nomatch z).tupxI
      refine ⟨fun pins s u I ru => ?_, A, α, ρ, y, sr.grow g1, e2, fun w H2 g2 r2 => ⟨a, ws, w, _, y, d, Fb A α, rfl, rfl, (g2.kp.to (F := Fb A α)).sqT l, p.mv g2.mv, r2, e, fun z rz => q z H2 (g1.trans g2) rz⟩⟩
      cases ru
      obtain ⟨h1, h2, its, rv, ob, h3, h4, h5⟩ := (show ObjOk X.prog X.w H1 s.heap a (.frz o (.tup ws)) from I.hok a _ ho)
      rw [h1] at h3
      cases h3
      exact ⟨⟨o, h1, h4⟩, fun a' ea => by cases ea; exact ⟨o, h1, hd⟩⟩
    · refine .inr ⟨A, α, ρ, _, sr, e1, fun v H1 g1 r1 => ?_⟩
      obtain ⟨a, ws, rfl, l, p⟩ := r1.lstI
      refine ⟨fun pins s u I ru => ?_, A, α, ρ, y, sr.grow g1, e2, fun w H2 g2 r2 => ?_⟩
      · cases ru
        obtain ⟨its, rv, ⟨ob, n, h3, h4, h5, h6⟩, _⟩ := I.list l
        exact ⟨⟨ob, h3, h4⟩, fun a' ea => by cases ea; exact ⟨ob, h3, h5⟩⟩
      · have r1' := r1.grow g2
        obtain ⟨a', ws', ea, l', p'⟩ := r1'.lstI
        cases ea
        exact ⟨a, ws', w, _, y, d, Fb A α, rfl, rfl, l', p', r2, e, fun z rz => q z H2 (g1.trans g2) rz⟩
    · cases e
end
/-- l.index(e), what stands there being keys -/
def idxD (xs : List D) (d : D) : Option D := (D.toNs xs).bind fun ks => (D.toN d).bind fun k => if k ∈ ks ∧ k.depth ≤ 8 then some (.int (ks.idxOf k)) else none
def idxX : D → D → Option D
  | .lst xs, d => idxD xs d
  | _, _ => none
section
variable {X : Cx} {C : Ctx} {o e : Expr} {apos cpos : Pos} {fa fx : Rho → Option D}
theorem mt_indexL (hu : X.A.units + 70 < cLine) : MtR X "list.index" (rCnt X.K C idxD (SqL X.K)) := by
  intro pins s σ H x xs v us Q I rx rv h
  obtain ⟨a, ws, y, ds, d, r, F, rfl, rfl, l, p, rd, e, q⟩ := h
  cases rx
  obtain ⟨u, rfl, ru⟩ := vals1 rv
  obtain ⟨ks, e1, e⟩ := bind_some e
  obtain ⟨k, e2, e⟩ := bind_some e
  obtain ⟨c, e⟩ : (k ∈ ks ∧ k.depth ≤ 8) ∧ some (D.int (ks.idxOf k)) = some r := by
    split at e
    · exact ⟨by assumption, e⟩
    · cases e
  cases e
  obtain ⟨its, r', pl, hz⟩ := I.list l
  have n1 := RepL.isNs I p e1 r'
  have n2 := Rep.isN I rd e2 ru
  refine SeqAt.call_list_index (vs := its) pl.isList (SeqAt.ItemsEq.nested n1 n2 (show X.A.units + 1 + k.depth < cLine by have := c.2; omega)) ?_ c.1 ⟨.int _, H, I.tok _, ⟨_, rfl⟩, q _ (.int _)⟩
  rw [← NestedAll.length _ _ n1, ← r'.length]
  exact hz
theorem qe_index (hu : X.A.units + 70 < cLine) (ho : BE X C o fa) (hx : QE X C e fx) (hbase : attributeBase o "index" X.env (eval o X.env) = eval o X.env := by rfl)
    (hfew : ((backTo cpos (starEach [e] X.env)).all (fun x => !x.1) && (backToKw cpos (keywordEach [] X.env)).all (fun x => x.1.isSome)
      && decide ([e].length + ([] : List Keyword).length + (if ([] : List Keyword).isEmpty then 0 else 1) < 30)) = true := by rfl)
    (hline : (apos.endLine == cpos.line) = true := by rfl) (hs : starEach [e] X.env = (false, eval e X.env) :: starEach [] X.env := by rfl) (hplain : (backTo cpos (starEach [] X.env)).any (·.1) = false := by rfl) :
    QE X C (.Call (.Attribute o "index" apos) [e] [] cpos) (q2 idxX fa fx) :=
  wkE (pe_bmG F.plainAttrs_list F.slot_list_index F.type_list_index (mt_indexL (C := C) hu) ho (pa_cons hx pa_nil hs) hbase hfew hline hs hplain) fun σ H Q ⟨A, α, ρ, d, sr, e, q⟩ => by
    obtain ⟨x, e1, e⟩ := bind_some e
    obtain ⟨y, e2, e⟩ := bind_some e
    unfold idxX at e
    split at e
    · refine ⟨A, α, ρ, _, sr, e1, fun v H1 g1 r1 => ?_⟩
      obtain ⟨a, ws, rfl, l, p⟩ := r1.lstI
      refine ⟨fun pins s u I ru => ?_, A, α, ρ, y, sr.grow g1, e2, fun w H2 g2 r2 => ?_⟩
      · cases ru
        obtain ⟨its, rv, ⟨ob, n, h3, h4, h5, h6⟩, _⟩ := I.list l
        exact ⟨⟨ob, h3, h4⟩, fun a' ea => by cases ea; exact ⟨ob, h3, h5⟩⟩
      · have r1' := r1.grow g2
        obtain ⟨a', ws', ea, l', p'⟩ := r1'.lstI
        cases ea
        exact ⟨a, ws', w, _, y, d, Fb A α, rfl, rfl, l', p', r2, e, fun z rz => q z H2 (g1.trans g2) rz⟩
    · cases e
end
end VL
end
section
set_option Elab.async false
set_option linter.all false
set_option maxRecDepth 100000
set_option maxHeartbeats 2000000
/-! VL40: max(t, key=lambda x: ..), t a tuple that bears no dict. -/
namespace VL
open PySem PySem.Spec L2 LamX
open PyProof.Rows hiding St
/-- one parameter p, no other name of its own -/
structure LamS1 (sc scope : Scope) (p : Str) : Prop where
  kind : scope.kind = .function
  co : scope.isCoroutine = false
  gen : scope.isGenerator = false
  par : scope.names.lookup p = some .local
  cell : ∀ y ∈ scope.names, y.2 ≠ .cell
  own : ∀ y ∈ scope.names, y.2 = .local → y.1 = p
  free : ∀ y ∈ scope.names, y.2 = .free → sc.names.lookup y.1 = some .cell ∨ sc.names.lookup y.1 = some .free
def lamS1B (sc scope : Scope) (p : Str) : Bool :=
  decide (scope.kind = .function) && !scope.isCoroutine && !scope.isGenerator && decide (scope.names.lookup p = some .local) && scope.names.all fun y => !decide (y.2 = .cell) && (!decide (y.2 = .local) || decide (y.1 = p)) && (!decide (y.2 = .free) || decide (sc.names.lookup y.1 = some .cell) || decide (sc.names.lookup y.1 = some .free))
theorem lamS1_by {sc scope : Scope} {p : Str} (h : lamS1B sc scope p = true) : LamS1 sc scope p := by
  unfold lamS1B at h
  simp only [Bool.and_eq_true, Bool.or_eq_true, Bool.not_eq_true', decide_eq_true_eq, decide_eq_false_iff_not, List.all_eq_true] at h
  obtain ⟨⟨⟨⟨h1, h2⟩, h3⟩, h4⟩, h5⟩ := h
  refine ⟨h1, h2, h3, h4, fun y hy => (h5 y hy).1.1, fun y hy e => ?_, fun y hy e => ?_⟩
  · rcases (h5 y hy).1.2 with z | z
    · exact absurd e z
    · exact z
  · rcases (h5 y hy).2 with (z | z) | z
    · exact absurd e z
    · exact .inl z
    · exact .inr z
theorem LamS1.has {X : Cx} {scope : Scope} {p : Str} (L : LamS1 X.env.scope scope p) (ok : X.Ok) : ∀ y ∈ scope.names, y.2 = .free → ∃ c, X.env.cells.lookup y.1 = some c := fun y hy e => by
  rcases L.free y hy e with k | k
  · exact ok.has _ (.inl k)
  · exact ok.has _ (.inr k)
/-- the context of such a lambda's body -/
def lamCx1 (X : Cx) (A : Around) (outer : List Env) (s : Shared) (H : Hp) (scope : Scope) (f c' : Addr) (p : Str) : Cx where
  prog := X.prog
  w := X.w
  K := X.K
  mg := X.mg
  base := X.base
  A := A.deeper (lamEnv X scope s.heap.objs.size f c')
  N := X.N ++ [p]
  s_0 := s
  H_0 := H
  env := lamEnv X scope s.heap.objs.size f c'
  outer := outer
  stack := lamEnv X scope s.heap.objs.size f c' :: outer
  ex := []
  fn := fun _ => false
  calm := true
  pn := []
  xe := fun e s' => wpAny (model X.prog X.w) (A.deeper (lamEnv X scope s.heap.objs.size f c')) (leaving (lamEnv X scope s.heap.objs.size f c') e) (fun _ s'' => False) (fun e' s'' => False) s'
section
variable {X : Cx} {pins : List (Addr × Obj)} {σ : L2.St} {H : Hp} {s : Shared}
theorem lam_start1 {A : Around} {outer : List Env} {scope : Scope} {f c' : Addr} {h₁ : Heap} {tk : Nat} {p : Str} {v : V} {u : Value} (I : Inv X pins σ H s) (L : LamS1 X.env.scope scope p) (hp : p ∉ X.N) (e0 : Env0 X.prog X.w X.K X.mg X.base A outer s H) (hd : A.handled = none) (ru : RelV v u)
    (hns : h₁.Ns s.heap.objs.size fun y => [(p, u)].reverse.lookup y) (kp : ∀ b o, s.heap.get? b = some o → h₁.get? b = some o) :
    Inv (lamCx1 X A outer s H scope f c' p) [] (σ ++ [some v]) H { s with heap := h₁, toks := tk } := by
  have hfree := L.has I.ok
  have cm : ∀ {y c}, (cloFrom X.env.cells scope.names []).lookup y = some c → X.env.cells.lookup y = some c := fun {y c} e => by
    rcases cloFrom_mem (PySem.mem_of_lookup e) with hm | ⟨h1, h2⟩
    · cases hm
    · obtain ⟨c1, hc⟩ := hfree _ h1 rfl
      have hc : X.env.cells.lookup y = some c1 := hc
      have e2 : c = c1 := by
        rw [h2, hc] <;> rfl
      rw [e2]
      exact hc
  have look : ∀ {y}, scope.names.lookup y = some .free → ∃ c, (cloFrom X.env.cells scope.names []).lookup y = some c := fun {y} hl => by
    have hy : (y, NameKind.free) ∈ scope.names := PySem.mem_of_lookup hl
    exact mem_lookup (cloFrom_has (cells := X.env.cells) (acc := []) hy)
  have cellK : ∀ {c : Addr} {v : Option Value}, s.heap.IsCell c v → h₁.IsCell c v := fun {c v} ⟨o, ho, hd⟩ => ⟨_, kp _ _ ho, hd⟩
  have noA : ∀ b : Addr, b ∉ (lamCx1 X A outer s H scope f c' p).ex := fun b z => absurd (show b ∈ ([] : List Addr) from z) (by simp)
  refine ⟨⟨e0.mod, L.kind, rfl, rfl, Nat.le_refl _, fun y z c e1 e2 => I.ok.inj y z c (cm e1) (cm e2), fun y hy => ?_, fun y c z _ => ?_, fun _ => hd, Around.frames_deeper e0.frames, .inr ⟨rfl, rfl⟩, fun b z => absurd z (noA b), e0.bs, e0.bsz, fun b _ _ => noA b,
      fun b z => absurd z (noA b), e0.funs, e0.frf⟩,
    rfl, e0.bare, Un.kept kp, ⟨_, hns, fun i y v' e1 e2 e3 => ?_⟩, fun y c e => ?_, e0.hok.fresh (Nat.le_refl _), fun y c e => ?_, fun q hq => absurd (show q ∈ ([] : List (Addr × Obj)) ++ [] from hq) (by simp), e0.hok.kept kp, by show (σ ++ [some v]).length = (X.N ++ [p]).length; rw [List.length_append, List.length_append, I.len] <;> rfl⟩
  · have hy : scope.names.lookup y = some .cell ∨ scope.names.lookup y = some .free := hy
    rcases hy with hy | hy
    · exact absurd rfl (L.cell _ (PySem.mem_of_lookup hy))
    · exact look hy
  · have z : false = true := z
    cases z
  · have e3 : Vis scope y := e3
    have e1 : (X.N ++ [p])[i]? = some y := e1
    by_cases hi : i < X.N.length
    · rw [List.getElem?_append_left hi] at e1
      rw [List.getElem?_append_left (by rw [I.len]; exact hi)] at e2
      have hyp : y ≠ p := fun z => hp (by rw [← z]; exact List.mem_of_getElem? e1)
      rcases e3 with k | k | k
      · exact absurd (L.own _ (PySem.mem_of_lookup k) rfl) hyp
      · exact absurd rfl (L.cell _ (PySem.mem_of_lookup k))
      · obtain ⟨m, hn, hl⟩ := I.loc
        have hvis : Vis X.env.scope y := (L.free _ (PySem.mem_of_lookup k) rfl).elim (fun k => .inr (.inl k)) (fun k => .inr (.inr k))
        obtain ⟨w', r, q⟩ := hl i y v' e1 e2 hvis
        obtain ⟨c2, h2⟩ := look k
        refine ⟨w', r, .inr ⟨.inr k, c2, h2, ?_⟩⟩
        have c1 := cm h2
        rcases q with ⟨k', _⟩ | ⟨_, c3, e', z⟩
        · have k' : X.env.scope.names.lookup y = some .local := k'
          rcases L.free _ (PySem.mem_of_lookup k) rfl with k2 | k2 <;> rw [show X.env.scope.names.lookup y = _ from k2] at k' <;> cases k'
        · rw [c1] at e'
          cases e'
          exact cellK z
    · have hi2 : i = X.N.length := by
        have := (List.getElem?_eq_some_iff.mp e1).1
        rw [List.length_append] at this
        simp only [List.length_cons, List.length_nil] at this
        omega
      subst hi2
      rw [List.getElem?_append_right (Nat.le_refl _), Nat.sub_self] at e1
      rw [List.getElem?_append_right (by rw [I.len]; exact Nat.le_refl _), I.len, Nat.sub_self] at e2
      cases e1
      cases e2
      exact ⟨u, ru, .inl ⟨L.par, by simp⟩⟩
  · obtain ⟨w', z⟩ := I.cell y c (cm e)
    exact ⟨w', cellK z⟩
  · exact I.freeC y c (cm e)
end
/-! ### the key of each item -/
def keysO (fb : Rho → Option D) (ρ : Rho) : List D → Option (List Int)
  | [] => some []
  | x :: xs => ((fb (ρ ++ [.v x])).bind intO).bind fun k => (keysO fb ρ xs).map fun ks => k :: ks
def maxKeyD (fb : Rho → Option D) (ρ : Rho) : D → Option D
  | .tupx xs => (keysO fb ρ xs).bind fun ks => if xs = [] then none else xs[argBest (fun i j => decide (ks.getD j 0 < ks.getD i 0)) (xs.length - 1)]?
  | _ => none
theorem keysO_at {fb : Rho → Option D} {ρ : Rho} : ∀ {xs : List D} {ks : List Int}, keysO fb ρ xs = some ks → ks.length = xs.length ∧ ∀ (i : Nat) (x : D), xs[i]? = some x → fb (ρ ++ [.v x]) = some (.int (ks.getD i 0))
  | [], _, h => by cases h; exact ⟨rfl, fun i x z => by simp at z⟩
  | x :: xs, _, h => by
    unfold keysO at h
    obtain ⟨k, h1, h⟩ := bind_some h
    obtain ⟨d, h2, h3⟩ := bind_some h1
    simp only [Option.map_eq_some_iff] at h
    obtain ⟨ks, h4, rfl⟩ := h
    obtain ⟨q1, q2⟩ := keysO_at h4
    refine ⟨by rw [List.length_cons, List.length_cons, q1], fun i y z => ?_⟩
    cases i with
    | zero => simp at z; subst z; rw [h2, intO_some h3]; rfl
    | succ i => have := q2 i y (by simpa using z); simpa using this
theorem SR.snoc {K : PySem.W.Frag} {C : Ctx} {A : Addr → Prop} {α : Nat → Option Addr} {ρ : Rho} {σ : L2.St} {H : Hp} {d : D} {v : V} (s : SR K C A α ρ σ H) (r : Rep K C (Fb A α) H d v) : SR K C A α (ρ ++ [.v d]) (σ ++ [some v]) H := by
  refine ⟨by rw [List.length_append, List.length_append, s.len] <;> rfl, s.inj, fun i h => s.out i (by rw [List.length_append] at h; omega), fun i x e => ?_, s.dom, s.na, s.tabs⟩
  by_cases hi : i < ρ.length
  · rw [List.getElem?_append_left hi] at e
    rw [List.getElem?_append_left (by rw [← s.len]; exact hi)]
    exact s.sl i x e
  · have hi2 : i = ρ.length := by
      have := (List.getElem?_eq_some_iff.mp e).1
      rw [List.length_append] at this
      simp only [List.length_cons, List.length_nil] at this
      omega
    subst hi2
    rw [List.getElem?_append_right (Nat.le_refl _), Nat.sub_self] at e
    rw [List.getElem?_append_right (by rw [s.len]; exact Nat.le_refl _), s.len, Nat.sub_self]
    cases e
    exact ⟨s.out _ (Nat.le_of_eq s.len), v, rfl, r⟩
section
variable {X : Cx} {C : Ctx} {a : Expr} {fa fb : Rho → Option D}
theorem qe_maxKey {y : Str} {c P : Addr} {k : Nat} {params : Arguments} {body : Expr} {scope : Scope} {p lpos kpos pos : Pos} (hr : RoomG (k + 2) X.A) (hc : X.calm = true) (hg : Gl X "max") (hm : X.mg "max" = none) (ha : QE X C a fa)
    (TB : TabB X.base X.mg c P) (hcode : X.env.code = .ref c) (hmT : (P, X.env.qual ++ "<lambda>") ∈ C.T) (hu : ∀ p ∈ C.T, p.1 = P → p.2 = X.env.qual ++ "<lambda>") (L : LamS1 X.env.scope scope y) (hy : y ∉ X.N) (hdef : defaultsOf params X.env = ([], []))
    (hbind : ∀ (q : Str) (cl : List (Str × Addr)) (pm cv ctv u : Value), bindArgs (PySem.W.kla_fn "<lambda>" q params body scope cl pm cv ctv) ⟨[u], []⟩ = pure [(y, u)])
    (hbody : ∀ (A : Around) (outer : List Env) (s : Shared) (H : Hp) (f c' : Addr), RoomG k (A.deeper (lamEnv X scope s.heap.objs.size f c')) → QE (lamCx1 X A outer s H scope f c' y) C body fb)
    (he : backTo pos (starEach [a] X.env) = (false, eval a X.env) :: backTo pos (starEach [] X.env) := by rfl) (hpl : (backTo pos (starEach [a] X.env)).any (·.1) = false := by rfl) (hs : starEach [a] X.env = (false, eval a X.env) :: starEach [] X.env := by rfl) :
    QE X C (.Call (.Name "max" p) [a] [⟨some "key", .Lambda params body scope lpos, kpos⟩] pos) (fun ρ => (fa ρ).bind (maxKeyD fb ρ)) := ⟨fun pins s σ H Q I ⟨A, α, ρ, d, sr, e, q⟩ => by
  obtain ⟨dx, e1, e⟩ := bind_some e
  unfold maxKeyD at e
  split at e
  · rename_i xs
    obtain ⟨ks, e2, e⟩ := bind_some e
    by_cases hx0 : xs = []
    · rw [if_pos hx0] at e; cases e
    rw [if_neg hx0] at e
    obtain ⟨kl, kat⟩ := keysO_at e2
    refine wpAny_Call_Name_kw (ld_blt I hg hm boot_max ?_)
    refine PyProof.Rows.callWith_kw (thn ((pa_cons ha pa_nil hs).run pos pins s σ H (fun vs H1 => ∃ v, vs = [v] ∧ Gro C H H1 ∧ Rep X.K C (Fb A α) H1 (.tupx xs) v) I ⟨A, α, ρ, _, sr, e1, fun v H1 g r => ⟨v, rfl, g, r⟩⟩) fun us s1 ⟨vs, H1, I1, r1, v, ev, g1, rp⟩ => ?_) he hpl rfl rfl
    subst ev
    obtain ⟨u, rfl, ru⟩ := vals1 r1
    have s1r := sr.grow g1
    show wpAny _ _ (evalAll ((do let v ← eval (.Lambda params body scope lpos) X.env; standAt pos; pure v) :: [])) _ _ s1
    refine wpAny_evalAll_cons (wpAny_bind (lam_make3 I1 TB hcode hmT hu s1r.tabs hdef (L.has I1.ok) fun f c' pm' ctv H2 s2 I2 eN nn T2 hf hfn hfr hco => ?_))
    refine wpAny_bind (wpAny_standAt (wpAny_pure (wpAny_evalAll_nil ?_)))
    have g2 : Gro C H1 H2 := gro_extN eN nn T2
    have s2r := s1r.grow g2
    obtain ⟨t, ws, rfl, lt, p, o, ho, hod⟩ := (rp.mv g2.mv).tupxI
    cases ru
    obtain ⟨hget, hz, its, rv, ob, hob, hcl, nn0, hda⟩ := (show ObjOk X.prog X.w H2 s2.heap t (.frz o (.tup ws)) from I2.hok t _ ho)
    rw [hget] at hob
    cases hob
    have hT : ∀ h : Heap, h.get? t = some o → h.IsTuple t its.toArray := fun h z => ⟨o, z, hcl, nn0, hda⟩
    have hlw : ws.length = its.length := rv.length
    have hlx : xs.length = ws.length := p.length
    have hn0 : 0 < its.toArray.size := by
      rw [List.size_toArray, ← hlw, ← hlx]
      exact List.length_pos_iff.mpr hx0
    show wpAny _ _ (call (.builtin "max") [.ref t] [(Str.ofString "key", .ref f)]) _ _ s2
    refine call_max_walkK (wpAny_pyIter_tuple (hT _ hget) ?_)
    have hIt : t ≠ s2.heap.objs.size := Nat.ne_of_lt (Heap.lt_size hget)
    have hh : X.A.in1.handled = none := hr.hd
    have W := (Walks.tuple (prog := X.prog) (w := X.w) (A := X.A.in1) hh s2.heap.objs.size t hIt its.toArray).toS
    have hsz : ({ s2 with heap := s2.heap.push { cls := .type "tuple_iterator", data := .fields #[.ref t, .int 0 0] } } : Shared).heap.objs.size = s2.heap.objs.size + 1 := Heap.size_push ..
    have hfI : f < s2.heap.objs.size := Heap.lt_size hf
    have hk1 : ∀ b o, s2.heap.get? b = some o → (s2.heap.push { cls := .type "tuple_iterator", data := .fields #[.ref t, .int 0 0] }).get? b = some o := fun b o z => Heap.get?_push_of_some _ z
    have I3 : Inv X pins σ H2 { s2 with heap := s2.heap.push { cls := .type "tuple_iterator", data := .fields #[.ref t, .int 0 0] } } := I2.kept (t' := s2.toks) hk1
    let fo := PySem.W.kla_obj "<lambda>" (X.env.qual ++ "<lambda>") params body scope (cloFrom X.env.cells scope.names []) pm' c' ctv
    let J : Shared → Prop := fun s' => ∃ H', Inv X pins σ H' s' ∧ Gro C H2 H' ∧ (∀ b ∈ [s2.heap.objs.size + 1, s2.heap.objs.size], FpOk X pins H' b) ∧ s'.heap.get? f = some fo ∧ H' f = none
    let V : Nat → Value → Shared → Prop := fun i k _ => ∃ tk, k = .int (ks.getD i 0) tk
    refine ⟨_, _, _, _, _, _, _, J, V, fun i j => decide (ks.getD j 0 < ks.getD i 0), rfl, W, ⟨⟨_, Heap.get?_push_size _ rfl, rfl, rfl⟩, hT _ (hk1 _ _ hget)⟩, fun b hb => ?_, hn0, ?_, ?_, fun v' s' hP ⟨H', I', g', fp', _⟩ => ?_⟩
    · rw [hsz]
      rcases List.mem_cons.mp hb with rfl | hb
      · exact Nat.lt_succ_self _
      · rw [List.mem_singleton.mp hb]; exact Nat.lt_succ_of_lt (Heap.lt_size hget)
    · rw [hsz]
      refine { keep := fun sa sb ⟨H', I', g', fp', hf', hfn'⟩ m => ?_, keepV := fun i k sa sb h _ => h, turn := fun i v' sa oS Q' E' hi hP ⟨H', I', g', fp', hf', hfn'⟩ hst hS hQ => ?_, cmp := fun i j ki kj sa Q' E' _ ⟨t1, e3⟩ ⟨t2, e4⟩ h => ?_ }
      · refine ⟨H', ?_, g', fp', ?_, hfn'⟩
        · have hb : sb = { sa with heap := sb.heap, toks := sb.toks } := by
            obtain ⟨b1, b2, b3, b4, b5⟩ := sb
            have e3 : b2 = sa.gens := m.gens
            have e4 : b3 = sa.drawn := m.drawn
            have e5 : b5 = sa.os := m.os
            subst e3 e4 e5
            rfl
          rw [hb]
          exact I'.turnedL (ch := [s2.heap.objs.size + 1, s2.heap.objs.size]) m.heap fp'
        · refine m.heap f fo (fun z => ?_) hf'
          rcases List.mem_cons.mp z with z | z
          · exact Nat.ne_of_lt (Nat.lt_succ_of_lt hfI) z
          · exact Nat.ne_of_lt hfI (List.mem_singleton.mp z)
      · obtain ⟨fS0, fS1, fS2, _⟩ := fp' (s2.heap.objs.size + 1) (by simp)
        obtain ⟨fI0, fI1, fI2, _⟩ := fp' s2.heap.objs.size (by simp)
        have nfr : ∀ b, b ≠ X.env.locals → b ∉ X.fs → b ∉ frs X.stack := fun b z1 z2 z => by
          rcases List.mem_cons.mp (I'.stkSub _ z) with e | e
          · exact z1 e
          · exact z2 e
        have hiw : i < ws.length := by rw [hlw]; simpa using hi
        have hix : i < xs.length := by rw [hlx]; exact hiw
        obtain ⟨wv, hw1, rw1⟩ := p.get (List.getElem?_eq_getElem hix)
        obtain ⟨uv, hu1, ru1⟩ := rv.get hw1
        have hP : its.toArray[i]? = some v' := hP
        rw [List.getElem?_toArray, hu1] at hP
        cases hP
        have hco' := g'.kp.any hco (fun _ z => nomatch z)
        obtain ⟨⟨oc, vs', tt, hoc, hdc, hvc⟩, _, _⟩ := I'.hok c' _ hco'
        have hr1 : RoomG (k + 1) X.A.in1 := ⟨(show Room (k + 1 + 1) X.A from hr.toRoom).in1, hr.gd⟩
        have rc : codeAny (model X.prog X.w) X.A.in1 (.call (.ref f) ⟨[v'], []⟩) (CR C8.CX0 X.stack X.prog X.w H' sa (fun vv HH => vv = .int (ks.getD i 0) ∧ Gro C H' HH) C8.E0) sa := by
          refine PySem.W.kla_callFunE hr1.depth hf' rfl L.co L.gen rfl ⟨c', oc, vs', tt, rfl, hoc, hdc, hvc⟩ ?_
          rw [hbind]
          refine wpAny_pure (wpAny_newFunctionEnv (fun y' hy' => L.cell y' hy') (fun y' hy' => by have e9 := List.mem_singleton.mp hy'; subst e9; exact L.par) (fun h₁ hns hsb => ⟨I'.nolimit.fresh _ hsb, ?_⟩) L.kind)
          show codeAny _ _ (.expr body (lamEnv X scope sa.heap.objs.size f c')) _ _
          have kp : ∀ b o, sa.heap.get? b = some o → h₁.get? b = some o := fun b o e => hsb.extBut b o (Nat.ne_of_lt (Heap.lt_size e)) (Heap.get?_push_of_some _ e)
          have J1 : Inv (lamCx1 X X.A.in1 X.stack sa H' scope f c' y) [] (σ ++ [some wv]) H' { sa with heap := h₁, toks := sa.toks + ([(y, v')] : List (Str × Value)).length } :=
            lam_start1 I' L hy I'.env0.in1 hr1.hd ru1 hns kp
          have sr9 : SR X.K C A α (ρ ++ [Sl.v xs[i]]) (σ ++ [some wv]) H' := (s2r.grow g').snoc (rw1.mv g'.mv)
          refine PySem.W.kla_codeExpr (wpAny_mono ((hbody X.A.in1 X.stack sa H' f c' (hr1.deeper _)).run [] _ _ H' (fun vv HH => vv = .int (ks.getD i 0) ∧ Gro C H' HH) J1 ⟨A, α, ρ ++ [Sl.v xs[i]], .int (ks.getD i 0), sr9, kat i _ (List.getElem?_eq_getElem hix), fun vv HH g r => ⟨by cases r; rfl, g⟩⟩) (fun v s' hq => ?_) fun e s' hq => hq)
          obtain ⟨w', H'', J', rv', q'⟩ := hq
          exact ⟨w', H'', J'.os, J'.bare, J'.base, J'.hok, rv', q'⟩
        refine wpAny_call (codeAny_mono rc fun r s' hq => ?_)
        cases r with
        | error e => exact (show False from hq).elim
        | ok fl =>
          cases fl with
          | ret u' =>
            have hq : CE X.stack X.prog X.w H' sa (fun vv HH => vv = .int (ks.getD i 0) ∧ Gro C H' HH) u' s' := hq
            obtain ⟨vv, H3, os, bare, un, hok, rr, ev, g3⟩ := hq
            obtain ⟨hh', gg', dd', tt', os'⟩ := s'
            obtain rfl : os' = sa.os := os
            have I4 := I'.call (h' := hh') (g' := gg') (d' := dd') (t' := tt') (ch := []) un hok bare (fun b z => absurd z (by simp))
            subst ev
            obtain ⟨tk, rfl⟩ : ∃ tk, u' = Value.int (ks.getD i 0) tk := rr
            obtain ⟨⟨oI, hoI, hcI, hdI⟩, _⟩ := hst
            have kS : hh'.get? (s2.heap.objs.size + 1) = some oS := un.keep _ _ hS fS0 (nfr _ fS1 fS2) (by simp)
            have kI : hh'.get? s2.heap.objs.size = some oI := un.keep _ _ hoI fI0 (nfr _ fI1 fI2) (by simp)
            have kf : hh'.get? f = some fo := un.keep _ _ hf' hfn' hfr (by simp)
            refine hQ _ _ ⟨H3, I4, g'.trans g3, fun b hb => ?_, kf, un.free _ _ hf' hfn' (by simp)⟩ ⟨⟨oI, kI, hcI, hdI⟩, hT _ ?_⟩ kS ⟨tk, rfl⟩ fun _ _ h => h
            · refine ⟨?_, (fp' b hb).2⟩
              rcases List.mem_cons.mp hb with rfl | hb
              · exact un.free _ _ hS fS0 (by simp)
              · rw [List.mem_singleton.mp hb]
                exact un.free _ _ hoI fI0 (by simp)
            · exact (show ObjOk X.prog X.w H3 hh' t (.frz o (.tup ws)) from I4.hok t _ ((g'.trans g3).kp t _ ho (.inr trivial))).1
          | next => exact False.elim hq
          | brk => exact False.elim hq
          | cont => exact False.elim hq
      · subst e3 e4
        exact gt_int h
    · refine ⟨H2, I3, Gro.refl, fun b hb => ?_, hk1 _ _ hf, hfn⟩
      rcases List.mem_cons.mp hb with rfl | hb
      · exact I2.fpOk (Nat.le_succ _) (I2.hok.fresh (Nat.le_succ _))
      · rw [List.mem_singleton.mp hb]
        exact I2.fpOk (Nat.le_refl _) (I2.hok.fresh (Nat.le_refl _))
    · have hsi : its.toArray.size = xs.length := by rw [List.size_toArray, hlx, hlw]
      rw [hsi] at hP
      obtain ⟨wv, hw1, rw1⟩ := p.get e
      obtain ⟨uv, hu1, ru1⟩ := rv.get hw1
      have hP : its.toArray[argBest (fun i j => decide (ks.getD j 0 < ks.getD i 0)) (xs.length - 1)]? = some v' := hP
      rw [List.getElem?_toArray, hu1] at hP
      cases hP
      exact ⟨wv, H', I', ru1, q _ _ (g1.trans (g2.trans g')) (rw1.mv g'.mv)⟩
  · cases e⟩
end
end VL
end
section
set_option Elab.async false
set_option linter.all false
set_option maxRecDepth 100000
set_option maxHeartbeats 2000000
/-! VL41: defs under another name, getters, methods, __init__; constants that are tuples; functions as values. -/
namespace VL
open PySem PySem.Spec L2
open PyProof.Rows hiding St
theorem RoomG.u70 {k : Nat} {A : Around} (r : RoomG k A) : A.units + 70 < cLine := by have := r.un; omega
section
variable {P : Program} {w : World} {K : PySem.W.Frag} {mg : Str → Option Value} {base : Heap} {C : Ctx} {k : Nat} {x nm qual : Str} {params : Arguments} {body : List Stmt} {scope : Scope} {fd : FuncData} {N ps : List Str} {cA : Addr}
theorem gqA_of {m : Rho → SRes} (F : FunD K nm qual params body scope [] [] (He.ga K x) fd) (S : FnScope N ps scope) (hl : ps.length ≤ N.length) (hm : mg x = some (.ref (He.ga K x))) (bn : L2.Binds K fd ps [])
    (hb : ∀ (cdv : Value) (Ar : Around) (outer : List Env) (s : Shared) (H : Hp) (E : XK), cdv = .ref (codeAt K (He.ga K x)) → RoomG k (Ar.deeper (envOfC qual scope s.heap.objs.size (He.ga K x) cdv)) → QSs (cxOf C8.CX0 P w K mg base N qual scope (He.ga K x) cdv Ar outer s H E).nox C W0 body m) :
    GQ P w K mg base C x (k + 1) ps.length (fun ds => fz (runF N.length m ds)) := ⟨⟨fd, ps, fn_ok F S hl hb, bn⟩, hm, F.kp⟩
/-- a getter -/
theorem gp_of {m : Rho → SRes} {f y : Str} (F : FunD K nm qual params body scope [] [] (gtA K (He.ma K cA f)) fd) (S : FnScope N [y] scope) (hl : 1 ≤ N.length) (bn : L2.Binds K fd [y] []) (hc : clsOk K cA = true) (hp : propOk K cA f = true)
    (hb : ∀ (cdv : Value) (Ar : Around) (outer : List Env) (s : Shared) (H : Hp) (E : XK), cdv = .ref (codeAt K (gtA K (He.ma K cA f))) → RoomG k (Ar.deeper (envOfC qual scope s.heap.objs.size (gtA K (He.ma K cA f)) cdv)) → QSs (cxOf C8.CX0 P w K mg base N qual scope (gtA K (He.ma K cA f)) cdv Ar outer s H E).nox C W0 body m) :
    GP P w K mg base C cA f (k + 1) (fun ds => fz (runF N.length m ds)) :=
  let ⟨h1, h2, h3, h4⟩ := propOk_ok hp
  ⟨⟨fd, y, fn_ok F S hl hb, bn⟩, clsOk_ok hc, h1, h2, h3, h4⟩
/-- a method -/
theorem gm_of {m : Rho → SRes} {f : Str} {n : Nat} (F : FunD K nm qual params body scope [] [] (He.ma K cA f) fd) (S : FnScope N ps scope) (hn : ps.length = n + 1) (hl : ps.length ≤ N.length) (bn : L2.Binds K fd ps []) (hc : clsOk K cA = true) (hp : methOk K cA f = true)
    (hb : ∀ (cdv : Value) (Ar : Around) (outer : List Env) (s : Shared) (H : Hp) (E : XK), cdv = .ref (codeAt K (He.ma K cA f)) → RoomG k (Ar.deeper (envOfC qual scope s.heap.objs.size (He.ma K cA f) cdv)) → QSs (cxOf C8.CX0 P w K mg base N qual scope (He.ma K cA f) cdv Ar outer s H E).nox C W0 body m) :
    GM P w K mg base C cA f (k + 1) n (fun ds => fz (runF N.length m ds)) := ⟨⟨fd, ps, hn ▸ fn_ok F S hl hb, bn⟩, clsOk_ok hc, methOk_ok hp⟩
/-- an __init__ -/
theorem gc_of {g : Rho → Option (List D)} {c n : Nat} (hoc : C.oc c = some cA) (F : FunD K nm qual params body scope [] [] (He.ma K cA "__init__") fd) (S : FnScope N ps scope) (hn : ps.length = n + 1) (hl : ps.length ≤ N.length) (bn : L2.Binds K fd ps []) (hm : mg x = some (.ref cA)) (hk : mkOk K cA = true)
    (hb : ∀ (cdv : Value) (Ar : Around) (outer : List Env) (s : Shared) (H : Hp) (E : XK), cdv = .ref (codeAt K (He.ma K cA "__init__")) → RoomG k (Ar.deeper (envOfC qual scope s.heap.objs.size (He.ma K cA "__init__") cdv)) → QNew (cxOf C8.CX0 P w K mg base N qual scope (He.ma K cA "__init__") cdv Ar outer s H E) C cA body g) :
    GC P w K mg base C x cA (k + 1) n (runNew N.length c g) := ⟨⟨fd, ps, fn_okNew hoc F S hn hl hb, bn⟩, mkOk_ok hk, hm⟩
end
/-! ### constants -/
section
variable {X : Cx} {C : Ctx} {W : WX} {x : Str} {pos p : Pos}
theorem tupS_rep {K : PySem.W.Frag} {F : Addr → Prop} {H : Hp} : ∀ zs : List Str, RepL K C F H (zs.map D.str) ((zs.map He.Dv.str).map (He.Dv.v K))
  | [] => .nil
  | z :: zs => .cons (.str z) (tupS_rep zs)
theorem tupI_rep {K : PySem.W.Frag} {F : Addr → Prop} {H : Hp} : ∀ zs : List Int, RepL K C F H (zs.map D.int) ((zs.map He.Dv.int).map (He.Dv.v K))
  | [] => .nil
  | z :: zs => .cons (.int z) (tupI_rep zs)
/-- a module's tuple of texts -/
theorem qe_tupS_glob (zs : List Str) (hg : Gl X x) (hm : X.mg x = some (.ref (He.ga X.K x))) (h : He.tupB X.K x (zs.map He.Dv.str) = true) (hd : (x == ("__debug__" : Str)) = false := by decide) : QE X C (.Name x pos) (qC (.tup (zs.map D.str))) :=
  qe_glob hg hm (v := .ref (He.ga X.K x)) rfl (fun F H => .tup (He.tupB_ok h H) (tupS_rep zs)) hd
theorem qe_tupI_glob (zs : List Int) (hg : Gl X x) (hm : X.mg x = some (.ref (He.ga X.K x))) (h : He.tupB X.K x (zs.map He.Dv.int) = true) (hd : (x == ("__debug__" : Str)) = false := by decide) : QE X C (.Name x pos) (qC (.tup (zs.map D.int))) :=
  qe_glob hg hm (v := .ref (He.ga X.K x)) rfl (fun F H => .tup (He.tupB_ok h H) (tupI_rep zs)) hd
/-- a def as a value -/
theorem qe_fn {n : Nat} (hg : Gl X x) (hm : X.mg x = some (.ref (He.ga X.K x))) (h : C.fnA n = some (He.ga X.K x)) (hd : (x == ("__debug__" : Str)) = false := by decide) : QE X C (.Name x pos) (qC (.fn n)) :=
  qe_glob hg hm (v := .ref (He.ga X.K x)) rfl (fun F H => .fn h) hd
/-- a variable that holds a def, called -/
def vFv (G : Nat → List D → FRes) (mf : Rho → Option D) (ms : Rho → Res (List D)) : Rho → Res D := fun ρ => match mf ρ with
  | some (.fn n) => vF (G n) ms ρ
  | _ => .bad
/-- the defs that it may hold -/
def GVs (P : Program) (w : World) (K : PySem.W.Frag) (mg : Str → Option Value) (base : Heap) (C : Ctx) (k n : Nat) (G : Nat → List D → FRes) : Prop := ∀ i a, C.fnA i = some a → ∃ x, GX P w K mg base C x k n (G i) ∧ a = He.ga K x
theorem ve_callVar {e : Expr} {es : List Expr} {k n : Nat} {G : Nat → List D → FRes} {i : Nat} {ms : Rho → Res (List D)} (hG : GVs X.prog X.w X.K X.mg X.base C k n G) (hr : RoomG k X.A) (tk : ∀ σ, PassesAt (L2.CX X.prog X.w) X σ (WE W σ)) (hN : X.N[i]? = some x) (hv : Vis X.env.scope x)
    (ha : VA X C W (e :: es) ms) (hn : ∀ ρ ds ρ', ms ρ = .ok ds ρ' → ds.length = n) (hd : (x == ("__debug__" : Str)) = false := by decide) (hcd : (x == ("__classdict__" : Str)) = false := by decide) (he : starEach (e :: es) X.env = (false, eval e X.env) :: starEach es X.env := by rfl) (hpl : (backTo pos (starEach es X.env)).any (·.1) = false := by rfl) :
    VE X C W (.Call (.Name x p) (e :: es) [] pos) (vFv G (qV i) ms) := ⟨fun pins s σ H Q I ⟨A, α, ρ, sr, q⟩ => by
  unfold vFv at q
  split at q
  · rename_i j hj
    have hj : ρ[i]? = some (.v (.fn j)) := by
      unfold qV at hj
      split at hj <;> first | (cases hj; assumption) | cases hj
    obtain ⟨v, hσ, rv⟩ := sr.var hj
    obtain ⟨a, hfa, rfl⟩ : ∃ a, C.fnA j = some a ∧ v = .ref a := by cases rv with | fn h => exact ⟨_, h, rfl⟩
    obtain ⟨y, GX1, rfl⟩ := hG j a hfa
    obtain ⟨fd, ps, Fn, hb⟩ := GX1.ex
    refine wpAny_Call_Name_kw (thn ((pe_var (pos := p) (i := i) hN hv hd hcd).run pins s σ H (fun v H1 => v = .ref (He.ga X.K y) ∧ H1 = H) I ⟨_, hσ, rfl, rfl⟩) fun u s1 ⟨v, H1, I1, r1, ev, eH⟩ => ?_)
    subst ev eH
    cases r1
    have key : ∀ (pins : List (Addr × Obj)) (s : Shared) (σ : L2.St) (H : Hp) (Q : VK), Inv X pins σ H s → rdV X.K C W (vF (G j) ms) σ H Q → wpAny (model X.prog X.w) X.A (callWith pos (.ref (He.ga X.K y)) [] (backTo pos (starEach (e :: es) X.env)) (backToKw pos (keywordEach [] X.env))) (EP X pins σ Q) X.xe s := by
      intro pins s σ H Q I ⟨A, α, ρ, sr, q⟩
      refine PySem.W.callWith_K (h₀ := X.base) I.ok.mod.kin GX1.hk (thn (ha.run pos pins s σ H (fun vs H1 => spP X.K C n (G j) vs H1 Q (WE W σ)) I ?_) fun us s1 ⟨vs, H1, I1, r, q⟩ => ⟨I1.kIn, ?_⟩) he hpl
      · refine ⟨A, α, ρ, sr, ?_⟩
        unfold vF at q
        cases h1 : ms ρ with
        | bad => rw [h1] at q; exact q.elim
        | ex c p ρ' => rw [h1] at q; exact q
        | ok ds ρ1 =>
          rw [h1] at q
          simp only [bindR] at q
          intro α1 vs H1 s1 t1 r1
          refine ⟨Fb A α1, ds, s1.dm, s1.tabs, r1, hn _ _ _ h1, ?_⟩
          cases hF : (G j) ds with
          | ok d' =>
            simp only [hF] at q
            exact fun v H' g2 r2 => q α1 v H' (s1.grow g2) (t1.trans (Stp.of_gro g2)) r2
          | ex c p =>
            simp only [hF] at q
            exact fun o H' g2 x => q α1 o H' (s1.grow g2) (t1.trans (Stp.of_gro g2)) x
          | bad =>
            simp only [hF] at q
            exact q.elim
      · exact run_fnG Fn hr hb .nil (tk σ) I1 r (by rw [List.append_nil]; exact q)
    exact key pins s1 σ H1 Q I1 ⟨A, α, ρ, sr, q⟩
  · exact q.elim⟩
end
/-! ### text * int -/
def mulOkB (x : Str) (n : Int) : Bool := (decide (n < -(2 ^ 63 : Int)) || decide (n ≥ 2 ^ 63)) == false && (decide (n < 1) || (n == 1 || x.length == 0) || (!decide ((x.length : Int) > (2 ^ 63 - 1) / n) && decide (x.length * n.toNat ≤ 16777216)))
theorem mulOkB_ok {x : Str} {n : Int} (h : mulOkB x n = true) : MulOk x n := by
  unfold mulOkB at h
  rw [Bool.and_eq_true] at h
  refine ⟨by simpa using h.1, fun h1 h2 => ?_, fun h1 h2 => ?_⟩
  · have h3 := h.2
    rw [h2, decide_eq_false h1] at h3
    simp only [Bool.false_or, Bool.and_eq_true, Bool.not_eq_true', decide_eq_true_eq, decide_eq_false_iff_not] at h3
    exact h3.1
  · have h3 := h.2
    rw [h2, decide_eq_false h1] at h3
    simp only [Bool.false_or, Bool.and_eq_true, Bool.not_eq_true', decide_eq_true_eq, decide_eq_false_iff_not] at h3
    unfold Builtin.Str.tooLong
    rw [sizeLine_eq]
    exact decide_eq_false (by omega)
def mulSD : O2
  | .str x, .int n => if mulOkB x n = true then some (.str (Txt.mul x n)) else none
  | _, _ => none
theorem op_mulS {X : Cx} {C : Ctx} : OpQ X C (binaryOp .Mult) mulSD := by
  intro pins s σ H x y v u Q I rx ry h
  obtain ⟨F, d, e, r, dm, r1, r2, e1, q⟩ := h
  unfold mulSD at e1
  split at e1
  · obtain ⟨c, rfl⟩ := if_some e1
    rw [r1.strI] at rx
    rw [r2.intI] at ry
    obtain ⟨t, rfl⟩ := rx
    obtain ⟨t2, rfl⟩ := ry
    exact SB.mul (mulOkB_ok c) fun t' k => ⟨.str _, H, I.tok _, ⟨_, rfl⟩, q _ H Gro.refl (.str _)⟩
  · cases e1
end VL
end
section
set_option Elab.async false
set_option linter.all false
set_option maxRecDepth 100000
set_option maxHeartbeats 4000000
namespace LK81
open PySem PySem.Spec L2
open PyProof.Rows hiding St
open VL PySem.VLX LamX
abbrev PW : Program := PySem.Challenge.pw_evencoins_k81_errors_of_kings
def top (i : Nat) : Stmt := PW.main.body.getD i (.Pass ⟨0, 0, 0, 0⟩)
def clsBody : Stmt → List Stmt
  | .ClassDef (body := b) .. => b
  | _ => []
abbrev S_is_integer : Stmt := top 12
abbrev S_is_within : Stmt := top 13
abbrev S_is_field : Stmt := top 14
abbrev S_is_whole : Stmt := top 21
abbrev S_is_from_halls : Stmt := top 22
abbrev S_Hall___init__ : Stmt := (clsBody (top 24)).getD 1 (.Pass ⟨0, 0, 0, 0⟩)
abbrev S_Hall_houses : Stmt := (clsBody (top 24)).getD 3 (.Pass ⟨0, 0, 0, 0⟩)
abbrev S_Hall_most : Stmt := (clsBody (top 24)).getD 4 (.Pass ⟨0, 0, 0, 0⟩)
abbrev S_Hall_kind : Stmt := (clsBody (top 24)).getD 5 (.Pass ⟨0, 0, 0, 0⟩)
abbrev S_Hall_places : Stmt := (clsBody (top 24)).getD 6 (.Pass ⟨0, 0, 0, 0⟩)
abbrev S_is_lot_within : Stmt := top 26
abbrev S_Hall_is_lot : Stmt := (clsBody (top 24)).getD 7 (.Pass ⟨0, 0, 0, 0⟩)
abbrev S_is_plain_within : Stmt := top 31
abbrev S_is_plain : Stmt := top 32
abbrev S_is_from_kings : Stmt := top 38
abbrev S_are_plain : Stmt := top 40
abbrev S_is_line : Stmt := top 41
abbrev S_are_lies : Stmt := top 42
abbrev S_require_hall : Stmt := top 43
abbrev S_require_values : Stmt := top 44
abbrev S_require_lot : Stmt := top 45
abbrev S_require_lies : Stmt := top 46
abbrev S_most_told : Stmt := top 47
abbrev S_kept_in : Stmt := top 48
abbrev S_heard_by : Stmt := top 49
abbrev S_phase_in : Stmt := top 50
abbrev S_phases_in : Stmt := top 51
abbrev S_free_houses : Stmt := top 52
abbrev S_agreed_in : Stmt := top 54
abbrev S_later_lies : Stmt := top 56
abbrev S_most_heard : Stmt := top 57
abbrev S_kept : Stmt := top 58
abbrev S_require_talk : Stmt := top 59
abbrev S_phases : Stmt := top 60
abbrev S_agreed : Stmt := top 61
abbrev S_walled : Stmt := top 62
abbrev S_settling : Stmt := top 63
abbrev S_latest : Stmt := top 64
abbrev S_late_paper : Stmt := top 65
abbrev S_is_late_paper : Stmt := top 66
abbrev S__law_dice : Stmt := top 68
abbrev S__law_roll : Stmt := top 69
abbrev S__law_pick : Stmt := top 70
abbrev S__law_met : Stmt := top 71
abbrev S__law_right : Stmt := top 72
abbrev S_law : Stmt := top 73
theorem sc_is_integer : FnScope ["value"] ["value"] (defScope S_is_integer) := ⟨rfl, rfl, rfl, by decide +kernel, rfl, by decide +kernel, by decide +kernel⟩
theorem sc_is_within : FnScope ["value", "least", "most"] ["value", "least", "most"] (defScope S_is_within) := ⟨rfl, rfl, rfl, by decide +kernel, rfl, by decide +kernel, by decide +kernel⟩
theorem sc_is_field : FnScope ["value", "part"] ["value"] (defScope S_is_field) := ⟨rfl, rfl, rfl, by decide +kernel, rfl, by decide +kernel, by decide +kernel⟩
theorem sc_is_whole : FnScope ["value"] ["value"] (defScope S_is_whole) := ⟨rfl, rfl, rfl, by decide +kernel, rfl, by decide +kernel, by decide +kernel⟩
theorem sc_is_from_halls : FnScope ["value", "least", "most"] ["value", "least", "most"] (defScope S_is_from_halls) := ⟨rfl, rfl, rfl, by decide +kernel, rfl, by decide +kernel, by decide +kernel⟩
theorem sc_Hall___init__ : FnScope ["self", "field", "houses", "most", "kind"] ["self", "field", "houses", "most", "kind"] (defScope S_Hall___init__) := ⟨rfl, rfl, rfl, by decide +kernel, rfl, by decide +kernel, by decide +kernel⟩
theorem sc_Hall_houses : FnScope ["self"] ["self"] (defScope S_Hall_houses) := ⟨rfl, rfl, rfl, by decide +kernel, rfl, by decide +kernel, by decide +kernel⟩
theorem sc_Hall_most : FnScope ["self"] ["self"] (defScope S_Hall_most) := ⟨rfl, rfl, rfl, by decide +kernel, rfl, by decide +kernel, by decide +kernel⟩
theorem sc_Hall_kind : FnScope ["self"] ["self"] (defScope S_Hall_kind) := ⟨rfl, rfl, rfl, by decide +kernel, rfl, by decide +kernel, by decide +kernel⟩
theorem sc_Hall_places : FnScope ["self"] ["self"] (defScope S_Hall_places) := ⟨rfl, rfl, rfl, by decide +kernel, rfl, by decide +kernel, by decide +kernel⟩
theorem sc_is_lot_within : FnScope ["hall", "value", "most", "house", "one", "other"] ["hall", "value", "most"] (defScope S_is_lot_within) := ⟨rfl, rfl, rfl, by decide +kernel, rfl, by decide +kernel, by decide +kernel⟩
theorem sc_Hall_is_lot : FnScope ["self", "value"] ["self", "value"] (defScope S_Hall_is_lot) := ⟨rfl, rfl, rfl, by decide +kernel, rfl, by decide +kernel, by decide +kernel⟩
theorem sc_is_plain_within : FnScope ["value", "deep", "one"] ["value", "deep"] (defScope S_is_plain_within) := ⟨rfl, rfl, rfl, by decide +kernel, rfl, by decide +kernel, by decide +kernel⟩
theorem sc_is_plain : FnScope ["value"] ["value"] (defScope S_is_plain) := ⟨rfl, rfl, rfl, by decide +kernel, rfl, by decide +kernel, by decide +kernel⟩
theorem sc_is_from_kings : FnScope ["value", "least", "most"] ["value", "least", "most"] (defScope S_is_from_kings) := ⟨rfl, rfl, rfl, by decide +kernel, rfl, by decide +kernel, by decide +kernel⟩
theorem sc_are_plain : FnScope ["value", "least", "most", "one"] ["value", "least", "most"] (defScope S_are_plain) := ⟨rfl, rfl, rfl, by decide +kernel, rfl, by decide +kernel, by decide +kernel⟩
theorem sc_is_line : FnScope ["hall", "lot", "most", "value", "house"] ["hall", "lot", "most", "value"] (defScope S_is_line) := ⟨rfl, rfl, rfl, by decide +kernel, rfl, by decide +kernel, by decide +kernel⟩
theorem sc_are_lies : FnScope ["hall", "lot", "most", "value", "line", "one"] ["hall", "lot", "most", "value"] (defScope S_are_lies) := ⟨rfl, rfl, rfl, by decide +kernel, rfl, by decide +kernel, by decide +kernel⟩
theorem sc_require_hall : FnScope ["value"] ["value"] (defScope S_require_hall) := ⟨rfl, rfl, rfl, by decide +kernel, rfl, by decide +kernel, by decide +kernel⟩
theorem sc_require_values : FnScope ["hall", "values"] ["hall", "values"] (defScope S_require_values) := ⟨rfl, rfl, rfl, by decide +kernel, rfl, by decide +kernel, by decide +kernel⟩
theorem sc_require_lot : FnScope ["hall", "lot"] ["hall", "lot"] (defScope S_require_lot) := ⟨rfl, rfl, rfl, by decide +kernel, rfl, by decide +kernel, by decide +kernel⟩
theorem sc_require_lies : FnScope ["hall", "lot", "most", "lies"] ["hall", "lot", "most", "lies"] (defScope S_require_lies) := ⟨rfl, rfl, rfl, by decide +kernel, rfl, by decide +kernel, by decide +kernel⟩
theorem sc_most_told : FnScope ["values", "best"] ["values"] (defScope S_most_told) := ⟨rfl, rfl, rfl, by decide +kernel, rfl, by decide +kernel, by decide +kernel⟩
theorem sc_kept_in : FnScope ["hall", "heard", "told", "value", "many"] ["hall", "heard", "told"] (defScope S_kept_in) := ⟨rfl, rfl, rfl, by decide +kernel, rfl, by decide +kernel, by decide +kernel⟩
theorem sc_heard_by : FnScope ["hall", "house", "values", "lies", "number", "other"] ["hall", "house", "values", "lies", "number"] (defScope S_heard_by) := ⟨rfl, rfl, rfl, by decide +kernel, rfl, by decide +kernel, by decide +kernel⟩
theorem sc_phase_in : FnScope ["hall", "values", "lies", "number", "heard", "house", "king", "told"] ["hall", "values", "lies", "number"] (defScope S_phase_in) := ⟨rfl, rfl, rfl, by decide +kernel, rfl, by decide +kernel, by decide +kernel⟩
theorem sc_phases_in : FnScope ["hall", "values", "lies", "found", "phase"] ["hall", "values", "lies"] (defScope S_phases_in) := ⟨rfl, rfl, rfl, by decide +kernel, rfl, by decide +kernel, by decide +kernel⟩
theorem sc_free_houses : FnScope ["hall", "lot", "house"] ["hall", "lot"] (defScope S_free_houses) := ⟨rfl, rfl, rfl, by decide +kernel, rfl, by decide +kernel, by decide +kernel⟩
theorem sc_agreed_in : FnScope ["hall", "values", "lot", "lies"] ["hall", "values", "lot", "lies"] (defScope S_agreed_in) := ⟨rfl, rfl, rfl, by decide +kernel, rfl, by decide +kernel, by decide +kernel⟩
theorem sc_later_lies : FnScope ["lies", "line", "told"] ["lies"] (defScope S_later_lies) := ⟨rfl, rfl, rfl, by decide +kernel, rfl, by decide +kernel, by decide +kernel⟩
theorem sc_most_heard : FnScope ["values"] ["values"] (defScope S_most_heard) := ⟨rfl, rfl, rfl, by decide +kernel, rfl, by decide +kernel, by decide +kernel⟩
theorem sc_kept : FnScope ["hall", "heard", "told"] ["hall", "heard", "told"] (defScope S_kept) := ⟨rfl, rfl, rfl, by decide +kernel, rfl, by decide +kernel, by decide +kernel⟩
theorem sc_require_talk : FnScope ["hall", "values", "lot", "lies"] ["hall", "values", "lot", "lies"] (defScope S_require_talk) := ⟨rfl, rfl, rfl, by decide +kernel, rfl, by decide +kernel, by decide +kernel⟩
theorem sc_phases : FnScope ["hall", "values", "lot", "lies"] ["hall", "values", "lot", "lies"] (defScope S_phases) := ⟨rfl, rfl, rfl, by decide +kernel, rfl, by decide +kernel, by decide +kernel⟩
theorem sc_agreed : FnScope ["hall", "values", "lot", "lies"] ["hall", "values", "lot", "lies"] (defScope S_agreed) := ⟨rfl, rfl, rfl, by decide +kernel, rfl, by decide +kernel, by decide +kernel⟩
theorem sc_walled : FnScope ["hall", "house", "text", "lot", "lies", "values", "other"] ["hall", "house", "text", "lot", "lies"] (defScope S_walled) := ⟨rfl, rfl, rfl, by decide +kernel, rfl, by decide +kernel, by decide +kernel⟩
theorem sc_settling : FnScope ["hall", "values", "lot", "lies"] ["hall", "values", "lot", "lies"] (defScope S_settling) := ⟨rfl, rfl, rfl, by decide +kernel, rfl, by decide +kernel, by decide +kernel⟩
theorem sc_latest : FnScope ["hall", "lot"] ["hall", "lot"] (defScope S_latest) := ⟨rfl, rfl, rfl, by decide +kernel, rfl, by decide +kernel, by decide +kernel⟩
theorem sc_late_paper : FnScope ["hall", "lot", "last", "values", "at", "house", "lies", "king"] ["hall", "lot"] (defScope S_late_paper) := ⟨rfl, rfl, rfl, by decide +kernel, rfl, by decide +kernel, by decide +kernel⟩
theorem sc_is_late_paper : FnScope ["hall", "lot", "value", "last"] ["hall", "lot", "value"] (defScope S_is_late_paper) := ⟨rfl, rfl, rfl, by decide +kernel, rfl, by decide +kernel, by decide +kernel⟩
theorem sc__law_dice : FnScope ["_law_script", "_law_spot", "_law_cell", "_law_left"] ["_law_script", "_law_spot"] (defScope S__law_dice) := ⟨rfl, rfl, rfl, by decide +kernel, rfl, by decide +kernel, by decide +kernel⟩
theorem sc__law_roll : FnScope ["_law_dice_here", "_law_most", "_law_found", "_law_one", "_law_two"] ["_law_dice_here", "_law_most"] (defScope S__law_roll) := ⟨rfl, rfl, rfl, by decide +kernel, rfl, by decide +kernel, by decide +kernel⟩
theorem sc__law_pick : FnScope ["_law_dice_here", "_law_items"] ["_law_dice_here", "_law_items"] (defScope S__law_pick) := ⟨rfl, rfl, rfl, by decide +kernel, rfl, by decide +kernel, by decide +kernel⟩
theorem sc__law_met : FnScope ["_law_call", "error"] ["_law_call"] (defScope S__law_met) := ⟨rfl, rfl, rfl, by decide +kernel, rfl, by decide +kernel, by decide +kernel⟩
theorem sc__law_right : FnScope ["_law_dice_here", "_law_hall", "_law_good", "_law_none", "_law_values", "_law_crew", "_law_some", "_law_tales", "_law_house", "_law_text", "_law_told", "_law_due", "_law_call", "_law_heard", "_law_wide", "_law_word"] ["_law_dice_here"] (defScope S__law_right) := ⟨rfl, rfl, rfl, by decide +kernel, rfl, by decide +kernel, by decide +kernel⟩
theorem sc_law : FnScope ["_law_script", "_law_spot", "_law_dice_here", "_law_hall", "_law_told"] ["_law_script"] (defScope S_law) := ⟨rfl, rfl, rfl, by decide +kernel, rfl, by decide +kernel, by decide +kernel⟩
def fa : List He.Fa := [.free "isinstance", .free "int", .free "bool", .glo "is_integer", .glo "is_within", .int "LEAST_FIELD" 5, .int "MAX_FIELD" 997, .int "MOST_PART" 32, .free "min", .free "range", .free "all", .glo "is_field", .glo "is_whole", .glo "is_from_halls", .str "LOOK" "look", .free "str", .glo "KINDS", .int "LEAST_HOUSES" 3, .int "MOST_HOUSES_halls" 9, .glo "Hall", .free "tuple", .free "len", .free "zip", .glo "is_lot_within", .int "MOST_LONG" 1000, .int "GREATEST" 1000000000000000000000000000000000000000000000000000000000000, .glo "is_plain_within", .int "MOST_DEEP" 6, .glo "is_plain", .glo "is_from_kings", .glo "are_plain", .int "TRIPLE" 3, .glo "is_line", .free "dict", .glo "are_lies", .str "LIE_kings" "lie", .exc "InvalidHall", .glo "InvalidHall", .glo "require_hall", .exc "InvalidWord", .glo "InvalidWord", .glo "require_values", .exc "InvalidLot", .glo "InvalidLot", .glo "require_lot", .exc "InvalidLies", .glo "InvalidLies", .glo "require_lies", .free "max", .glo "most_told", .glo "kept_in", .glo "heard_by", .glo "phase_in", .glo "phases_in", .glo "free_houses", .glo "agreed_in", .glo "later_lies", .int "MOST_HOUSES_kings" 9, .glo "most_heard", .glo "kept", .glo "require_talk", .glo "phases", .glo "agreed", .glo "walled", .glo "settling", .glo "latest", .glo "late_paper", .int "PAIR" 2, .glo "is_late_paper", .free "abs", .glo "_law_dice", .glo "_law_roll", .glo "_law_pick", .exm "InvalidWord" "InvalidHall" false, .exm "InvalidHall" "InvalidHall" true, .exm "InvalidLot" "InvalidHall" false, .exm "InvalidLies" "InvalidHall" false, .exm "InvalidNumber" "InvalidHall" false, .exm "InvalidWord" "InvalidWord" true, .exm "InvalidHall" "InvalidWord" false, .exm "InvalidLot" "InvalidWord" false, .exm "InvalidLies" "InvalidWord" false, .exm "InvalidNumber" "InvalidWord" false, .exm "InvalidWord" "InvalidLot" false, .exm "InvalidHall" "InvalidLot" false, .exm "InvalidLot" "InvalidLot" true, .exm "InvalidLies" "InvalidLot" false, .exm "InvalidNumber" "InvalidLot" false, .exm "InvalidWord" "InvalidLies" false, .exm "InvalidHall" "InvalidLies" false, .exm "InvalidLot" "InvalidLies" false, .exm "InvalidLies" "InvalidLies" true, .exm "InvalidNumber" "InvalidLies" false, .free "repr", .exm "InvalidWord" "InvalidNumber" false, .exm "InvalidHall" "InvalidNumber" false, .exm "InvalidLot" "InvalidNumber" false, .exm "InvalidLies" "InvalidNumber" false, .exm "InvalidNumber" "InvalidNumber" true, .glo "InvalidNumber", .glo "_law_met", .keep "_law_met", .glo "_law_right", .glo "law"]
def d_is_integer : He.DefD := ⟨("is_integer", none), "is_integer", "is_integer", defArgs S_is_integer, defBody S_is_integer, defScope S_is_integer, [], []⟩
def d_is_within : He.DefD := ⟨("is_within", none), "is_within", "is_within", defArgs S_is_within, defBody S_is_within, defScope S_is_within, [], []⟩
def d_is_field : He.DefD := ⟨("is_field", none), "is_field", "is_field", defArgs S_is_field, defBody S_is_field, defScope S_is_field, [], []⟩
def d_is_whole : He.DefD := ⟨("is_whole", none), "is_whole", "is_whole", defArgs S_is_whole, defBody S_is_whole, defScope S_is_whole, [], []⟩
def d_is_from_halls : He.DefD := ⟨("is_from_halls", none), "is_from", "is_from", defArgs S_is_from_halls, defBody S_is_from_halls, defScope S_is_from_halls, [], []⟩
def d_Hall___init__ : He.DefD := ⟨("Hall", some "__init__"), "__init__", "Hall.__init__", defArgs S_Hall___init__, defBody S_Hall___init__, defScope S_Hall___init__, [], []⟩
def d_Hall_houses : He.DefD := ⟨("Hall", some "houses"), "houses", "Hall.houses", defArgs S_Hall_houses, defBody S_Hall_houses, defScope S_Hall_houses, [], []⟩
def d_Hall_most : He.DefD := ⟨("Hall", some "most"), "most", "Hall.most", defArgs S_Hall_most, defBody S_Hall_most, defScope S_Hall_most, [], []⟩
def d_Hall_kind : He.DefD := ⟨("Hall", some "kind"), "kind", "Hall.kind", defArgs S_Hall_kind, defBody S_Hall_kind, defScope S_Hall_kind, [], []⟩
def d_Hall_places : He.DefD := ⟨("Hall", some "places"), "places", "Hall.places", defArgs S_Hall_places, defBody S_Hall_places, defScope S_Hall_places, [], []⟩
def d_is_lot_within : He.DefD := ⟨("is_lot_within", none), "is_lot_within", "is_lot_within", defArgs S_is_lot_within, defBody S_is_lot_within, defScope S_is_lot_within, [], []⟩
def d_Hall_is_lot : He.DefD := ⟨("Hall", some "is_lot"), "is_lot", "Hall.is_lot", defArgs S_Hall_is_lot, defBody S_Hall_is_lot, defScope S_Hall_is_lot, [], []⟩
def d_is_plain_within : He.DefD := ⟨("is_plain_within", none), "is_plain_within", "is_plain_within", defArgs S_is_plain_within, defBody S_is_plain_within, defScope S_is_plain_within, [], []⟩
def d_is_plain : He.DefD := ⟨("is_plain", none), "is_plain", "is_plain", defArgs S_is_plain, defBody S_is_plain, defScope S_is_plain, [], []⟩
def d_is_from_kings : He.DefD := ⟨("is_from_kings", none), "is_from", "is_from", defArgs S_is_from_kings, defBody S_is_from_kings, defScope S_is_from_kings, [], []⟩
def d_are_plain : He.DefD := ⟨("are_plain", none), "are_plain", "are_plain", defArgs S_are_plain, defBody S_are_plain, defScope S_are_plain, [], []⟩
def d_is_line : He.DefD := ⟨("is_line", none), "is_line", "is_line", defArgs S_is_line, defBody S_is_line, defScope S_is_line, [], []⟩
def d_are_lies : He.DefD := ⟨("are_lies", none), "are_lies", "are_lies", defArgs S_are_lies, defBody S_are_lies, defScope S_are_lies, [], []⟩
def d_require_hall : He.DefD := ⟨("require_hall", none), "require_hall", "require_hall", defArgs S_require_hall, defBody S_require_hall, defScope S_require_hall, [], []⟩
def d_require_values : He.DefD := ⟨("require_values", none), "require_values", "require_values", defArgs S_require_values, defBody S_require_values, defScope S_require_values, [], []⟩
def d_require_lot : He.DefD := ⟨("require_lot", none), "require_lot", "require_lot", defArgs S_require_lot, defBody S_require_lot, defScope S_require_lot, [], []⟩
def d_require_lies : He.DefD := ⟨("require_lies", none), "require_lies", "require_lies", defArgs S_require_lies, defBody S_require_lies, defScope S_require_lies, [], []⟩
def d_most_told : He.DefD := ⟨("most_told", none), "most_told", "most_told", defArgs S_most_told, defBody S_most_told, defScope S_most_told, [], []⟩
def d_kept_in : He.DefD := ⟨("kept_in", none), "kept_in", "kept_in", defArgs S_kept_in, defBody S_kept_in, defScope S_kept_in, [], []⟩
def d_heard_by : He.DefD := ⟨("heard_by", none), "heard_by", "heard_by", defArgs S_heard_by, defBody S_heard_by, defScope S_heard_by, [], []⟩
def d_phase_in : He.DefD := ⟨("phase_in", none), "phase_in", "phase_in", defArgs S_phase_in, defBody S_phase_in, defScope S_phase_in, [], []⟩
def d_phases_in : He.DefD := ⟨("phases_in", none), "phases_in", "phases_in", defArgs S_phases_in, defBody S_phases_in, defScope S_phases_in, [], []⟩
def d_free_houses : He.DefD := ⟨("free_houses", none), "free_houses", "free_houses", defArgs S_free_houses, defBody S_free_houses, defScope S_free_houses, [], []⟩
def d_agreed_in : He.DefD := ⟨("agreed_in", none), "agreed_in", "agreed_in", defArgs S_agreed_in, defBody S_agreed_in, defScope S_agreed_in, [], []⟩
def d_later_lies : He.DefD := ⟨("later_lies", none), "later_lies", "later_lies", defArgs S_later_lies, defBody S_later_lies, defScope S_later_lies, [], []⟩
def d_most_heard : He.DefD := ⟨("most_heard", none), "most_heard", "most_heard", defArgs S_most_heard, defBody S_most_heard, defScope S_most_heard, [], []⟩
def d_kept : He.DefD := ⟨("kept", none), "kept", "kept", defArgs S_kept, defBody S_kept, defScope S_kept, [], []⟩
def d_require_talk : He.DefD := ⟨("require_talk", none), "require_talk", "require_talk", defArgs S_require_talk, defBody S_require_talk, defScope S_require_talk, [], []⟩
def d_phases : He.DefD := ⟨("phases", none), "phases", "phases", defArgs S_phases, defBody S_phases, defScope S_phases, [], []⟩
def d_agreed : He.DefD := ⟨("agreed", none), "agreed", "agreed", defArgs S_agreed, defBody S_agreed, defScope S_agreed, [], []⟩
def d_walled : He.DefD := ⟨("walled", none), "walled", "walled", defArgs S_walled, defBody S_walled, defScope S_walled, [], []⟩
def d_settling : He.DefD := ⟨("settling", none), "settling", "settling", defArgs S_settling, defBody S_settling, defScope S_settling, [], []⟩
def d_latest : He.DefD := ⟨("latest", none), "latest", "latest", defArgs S_latest, defBody S_latest, defScope S_latest, [], []⟩
def d_late_paper : He.DefD := ⟨("late_paper", none), "late_paper", "late_paper", defArgs S_late_paper, defBody S_late_paper, defScope S_late_paper, [], []⟩
def d_is_late_paper : He.DefD := ⟨("is_late_paper", none), "is_late_paper", "is_late_paper", defArgs S_is_late_paper, defBody S_is_late_paper, defScope S_is_late_paper, [], []⟩
def d__law_dice : He.DefD := ⟨("_law_dice", none), "_law_dice", "_law_dice", defArgs S__law_dice, defBody S__law_dice, defScope S__law_dice, [], []⟩
def d__law_roll : He.DefD := ⟨("_law_roll", none), "_law_roll", "_law_roll", defArgs S__law_roll, defBody S__law_roll, defScope S__law_roll, [], []⟩
def d__law_pick : He.DefD := ⟨("_law_pick", none), "_law_pick", "_law_pick", defArgs S__law_pick, defBody S__law_pick, defScope S__law_pick, [], []⟩
def d__law_met : He.DefD := ⟨("_law_met", none), "_law_met", "_law_met", defArgs S__law_met, defBody S__law_met, defScope S__law_met, [], []⟩
def d__law_right : He.DefD := ⟨("_law_right", none), "_law_right", "_law_right", defArgs S__law_right, defBody S__law_right, defScope S__law_right, [], []⟩
def d_law : He.DefD := ⟨("law", none), "law", "law", defArgs S_law, defBody S_law, defScope S_law, [], []⟩
def fn : List He.DefD := [d_is_integer, d_is_within, d_is_field, d_is_whole, d_is_from_halls, d_Hall___init__, d_is_lot_within, d_Hall_is_lot, d_is_plain_within, d_is_plain, d_is_from_kings, d_are_plain, d_is_line, d_are_lies, d_require_hall, d_require_values, d_require_lot, d_require_lies, d_most_told, d_kept_in, d_heard_by, d_phase_in, d_phases_in, d_free_houses, d_agreed_in, d_later_lies, d_most_heard, d_kept, d_require_talk, d_phases, d_agreed, d_walled, d_settling, d_latest, d_late_paper, d_is_late_paper, d__law_dice, d__law_roll, d__law_pick, d__law_met, d__law_right, d_law]
def gds : List He.DefD := [d_Hall_houses, d_Hall_most, d_Hall_kind, d_Hall_places]
def tf : List He.Defn := [("most_told", none), ("_law_right", none), ("law", none)]
abbrev I_InvalidNumber : Stmt := (clsBody (top 6)).getD 0 (.Pass ⟨0, 0, 0, 0⟩)
def u_InvalidNumber : SupD := ⟨"InvalidNumber", "given", "a valid number is expected", "IndexError", "IndexError.__new__", "IndexError.__init__", [.type "IndexError", .type "LookupError", .type "Exception", .type "BaseException", .type "object"], defArgs I_InvalidNumber, defBody I_InvalidNumber⟩
theorem nf_InvalidNumber : NmF "given" := ⟨by decide, by decide, by decide, rfl, rfl, fun _ _ _ _ _ _ _ _ _ _ _ _ => rfl⟩
def sups : List SupD := [u_InvalidNumber]
def cb (K : PySem.W.Frag) : List Bool := [slotOk K (He.ga K "Hall") "own_kind" 2,
  slotOk K (He.ga K "Hall") "own_most" 3,
  slotOk K (He.ga K "Hall") "own_houses" 1,
  slotOk K (He.ga K "Hall") "own_field" 0,
  He.tupB K "KINDS" ((["look", "lie"] : List Str).map He.Dv.str),
  mkOk K (He.ga K "Hall"),
  gOk K d_Hall_houses,
  clsOk K (He.ga K "Hall"),
  propOk K (He.ga K "Hall") "houses",
  gOk K d_Hall_most,
  propOk K (He.ga K "Hall") "most",
  gOk K d_Hall_kind,
  propOk K (He.ga K "Hall") "kind",
  gOk K d_Hall_places,
  propOk K (He.ga K "Hall") "places",
  methOk K (He.ga K "Hall") "is_lot",
  isiOk K (He.ga K "Hall")]
def exB (K : PySem.W.Frag) : Bool := tabsNd K tf && ((sups.all fun d => d.ok PW.main.file K) && (cb K).all id)
structure TXX (K : PySem.W.Frag) (mg : Str → Option Value) (base : Heap) : Prop extends TX fa fn tf exB K mg base where
  so : ∀ d ∈ sups, d.obs K = d.val
  go : ∀ d ∈ gds, fnG K d.at_ = d.val
def clsN (K : PySem.W.Frag) : Nat → Value := fun n => match n with
  | 0 => .ref (He.ga K "InvalidWord")
  | 1 => .ref (He.ga K "InvalidHall")
  | 2 => .ref (He.ga K "InvalidLot")
  | 3 => .ref (He.ga K "InvalidLies")
  | 4 => .ref (He.ga K "InvalidNumber")
  | _ => .none
def fldL : Nat → Option Str := fun n => match n with
  | 0 => none
  | 1 => none
  | 2 => none
  | 3 => none
  | 4 => some "given"
  | _ => none
def ocN (K : PySem.W.Frag) : Nat → Option Addr := fun n => match n with
  | 0 => some (He.ga K "Hall")
  | _ => none
def fnN (K : PySem.W.Frag) : Nat → Option Addr := fun n => match n with
  | 0 => some (He.ga K "phases")
  | 1 => some (He.ga K "agreed")
  | 2 => some (He.ga K "settling")
  | _ => none
def CC (w : World) (K : PySem.W.Frag) : VL.Ctx := { w := w, T := tabL K tf, cls := clsN K, fld := fldL, fnA := fnN K, oc := ocN K }
abbrev lawIx : Nat := 103
section
variable {P : Program} {w : World} {K : PySem.W.Frag} {mg : Str → Option Value} {base : Heap} {k : Nat}
theorem more_nd (T : TXX K mg base) : tabsNd K tf = true := (Bool.and_eq_true_iff.mp T.more).1
theorem ext_InvalidNumber (T : TXX K mg base) : ExT PW K mg "InvalidNumber" "given" "a valid number is expected" "IndexError" "IndexError.__new__" "IndexError.__init__" [.type "IndexError", .type "LookupError", .type "Exception", .type "BaseException", .type "object"] (He.ga K "InvalidNumber") (He.ma K (He.ga K "InvalidNumber") "__init__") ∧ L2.XfC K (He.ga K "InvalidNumber") :=
  SupD.ext (d := u_InvalidNumber) T.kin T.ns (T.so u_InvalidNumber (by simp [sups])) (List.all_eq_true.mp (Bool.and_eq_true_iff.mp (Bool.and_eq_true_iff.mp T.more).2).1 u_InvalidNumber (by simp [sups])) rfl (by decide +kernel) rfl rfl ⟨_, fun _ _ _ _ => rfl⟩
theorem cb_at (T : TXX K mg base) (i : Nat) {b : Bool} (h : (cb K)[i]? = some b := by rfl) : b = true := List.all_eq_true.mp (Bool.and_eq_true_iff.mp (Bool.and_eq_true_iff.mp T.more).2).2 b (List.mem_of_getElem? h)
theorem cls_Hall (T : TXX K mg base) : SlX.SCls K (He.ga K "Hall") := clsOk_ok (cb_at T 7)
theorem isi_Hall (T : TXX K mg base) : IsiC K (He.ga K "Hall") := isiOk_ok (cb_at T 7) (cb_at T 16)
def m_is_integer : Rho → SRes :=
    (sRet (qAnd (qU (isiD "int") (qB 0)) (qNot (qU (isiD "bool") (qB 0)))))
def F_is_integer : List D → FRes := fun ds => fz (runF 1 m_is_integer ds)
theorem ok_is_integer (T : TXX K mg base) : GQ PW w K mg base (CC w K) "is_integer" 1 1 F_is_integer := by
  obtain ⟨fd, F⟩ : ∃ fd, FunD K "is_integer" "is_integer" (defArgs S_is_integer) (defBody S_is_integer) (defScope S_is_integer) [] [] (He.ga K "is_integer") fd := T.sd.def_ 0
  refine gqA_of (k := 0) (N := ["value"]) (ps := ["value"]) F sc_is_integer (by decide) (T.glo 3) (F.bindsN fun _ _ _ _ _ _ us hl => match us, hl with | [_], _ => rfl) (fun cdv Ar outer s H E hcv hr => ?_)
  exact ((qss_one (qs_ret (qe_and (qe_isi (T := "int") (be_var 0) rfl (T.free 0) rfl rfl (T.free 1) rfl) (qe_one (qe_not (qe_isi (T := "bool") (be_var 0) rfl (T.free 0) rfl rfl (T.free 2) rfl)))))))
def m_is_within : Rho → SRes :=
    (sRet (qAnd (qF F_is_integer (aC (qV 0) aN)) (qChain leD leD (qB 1) (qB 0) (qB 2))))
def F_is_within : List D → FRes := fun ds => fz (runF 3 m_is_within ds)
theorem ok_is_within (T : TXX K mg base) : GQ PW w K mg base (CC w K) "is_within" 2 3 F_is_within := by
  obtain ⟨fd, F⟩ : ∃ fd, FunD K "is_within" "is_within" (defArgs S_is_within) (defBody S_is_within) (defScope S_is_within) [] [] (He.ga K "is_within") fd := T.sd.def_ 1
  refine gqA_of (k := 1) (N := ["value", "least", "most"]) (ps := ["value", "least", "most"]) F sc_is_within (by decide) (T.glo 4) (F.bindsN fun _ _ _ _ _ _ us hl => match us, hl with | [_, _, _], _ => rfl) (fun cdv Ar outer s H E hcv hr => ?_)
  exact ((qss_one (qs_ret (qe_and (qe_g (ok_is_integer T) (hr.mono (by decide)) rfl (qa_cons (qe_var 0) qa_nil)) (qe_one (qe_chain op_leQ op_leQ (be_var 1) (be_var 0) (be_var 2)))))))
def m_is_field : Rho → SRes :=
    (sC (sIf (tNo (tV (qF F_is_within (aC (qV 0) (aC (qC (.int 5)) (aC (qC (.int 997)) aN)))))) (sRet (qC (.bl false))) sN)
    (sRet (qCB allD (aC (fun ρ => lstO ((qLc [1] (iC rangeD (aC (qC (.int 2)) (aC (qCB minD (aC (qB 0) (aC (qC (.int 32)) aN))) aN))) (gV 1) tT (q2 neD (q2 modD (qB 0) (qB 1)) (qC (.int 0)))) ρ)) aN))))
def F_is_field : List D → FRes := fun ds => fz (runF 2 m_is_field ds)
theorem ok_is_field (T : TXX K mg base) : GQ PW w K mg base (CC w K) "is_field" 3 1 F_is_field := by
  obtain ⟨fd, F⟩ : ∃ fd, FunD K "is_field" "is_field" (defArgs S_is_field) (defBody S_is_field) (defScope S_is_field) [] [] (He.ga K "is_field") fd := T.sd.def_ 2
  refine gqA_of (k := 2) (N := ["value", "part"]) (ps := ["value"]) F sc_is_field (by decide) (T.glo 11) (F.bindsN fun _ _ _ _ _ _ us hl => match us, hl with | [_], _ => rfl) (fun cdv Ar outer s H E hcv hr => ?_)
  exact ((qss_cons (qs_if (qt_not (qt_val (qe_g (ok_is_within T) (hr.mono (by decide)) rfl (qa_cons (qe_var 0) (qa_cons (qe_int_glob rfl (T.int 5)) (qa_cons (qe_int_glob rfl (T.int 6)) qa_nil)))))) (qss_one (qs_ret qe_bl)) qss_nil)
      (qss_one (qs_ret (qe_callB (bq_all rfl) rfl (T.free 10) rfl (ba_cons (be_q (qe_f (fe_lc [("part", 1)] rfl sc_is_field.nd (qi_range2 rfl (T.free 9) (qa_cons qe_int (qa_cons (qe_callB (bq_min rfl) rfl (T.free 8) rfl (ba_cons (be_var 0) (ba_cons (be_q (qe_int_glob rfl (T.int 7))) ba_nil))) qa_nil))) (blkOk_by rfl) (fun s H Ca cl fp => (qg_name (vs := [1]) (i := 1) sc_is_field.nd rfl (by first | exact Or.inl rfl | exact Or.inr rfl | exact Or.inr (Or.inl rfl)))) (fun s H Ca cl fp => qts_nil) (fun s H Ca cl fp => (qe_cmp (op_neQ hr.toRoom) (be_q (qe_op op_modQ (be_var 0) (be_var 1))) (be_q qe_int) (nomark _)))))) ba_nil))))))
def m_is_whole : Rho → SRes :=
    (sRet (qAnd (qU (isiD "int") (qB 0)) (qNot (qU (isiD "bool") (qB 0)))))
def F_is_whole : List D → FRes := fun ds => fz (runF 1 m_is_whole ds)
theorem ok_is_whole (T : TXX K mg base) : GQ PW w K mg base (CC w K) "is_whole" 1 1 F_is_whole := by
  obtain ⟨fd, F⟩ : ∃ fd, FunD K "is_whole" "is_whole" (defArgs S_is_whole) (defBody S_is_whole) (defScope S_is_whole) [] [] (He.ga K "is_whole") fd := T.sd.def_ 3
  refine gqA_of (k := 0) (N := ["value"]) (ps := ["value"]) F sc_is_whole (by decide) (T.glo 12) (F.bindsN fun _ _ _ _ _ _ us hl => match us, hl with | [_], _ => rfl) (fun cdv Ar outer s H E hcv hr => ?_)
  exact ((qss_one (qs_ret (qe_and (qe_isi (T := "int") (be_var 0) rfl (T.free 0) rfl rfl (T.free 1) rfl) (qe_one (qe_not (qe_isi (T := "bool") (be_var 0) rfl (T.free 0) rfl rfl (T.free 2) rfl)))))))
def m_is_from_halls : Rho → SRes :=
    (sRet (qAnd (qF F_is_whole (aC (qV 0) aN)) (qChain leD leD (qB 1) (qB 0) (qB 2))))
def F_is_from_halls : List D → FRes := fun ds => fz (runF 3 m_is_from_halls ds)
theorem ok_is_from_halls (T : TXX K mg base) : GQ PW w K mg base (CC w K) "is_from_halls" 2 3 F_is_from_halls := by
  obtain ⟨fd, F⟩ : ∃ fd, FunD K "is_from" "is_from" (defArgs S_is_from_halls) (defBody S_is_from_halls) (defScope S_is_from_halls) [] [] (He.ga K "is_from_halls") fd := T.sd.def_ 4
  refine gqA_of (k := 1) (N := ["value", "least", "most"]) (ps := ["value", "least", "most"]) F sc_is_from_halls (by decide) (T.glo 13) (F.bindsN fun _ _ _ _ _ _ us hl => match us, hl with | [_, _, _], _ => rfl) (fun cdv Ar outer s H E hcv hr => ?_)
  exact ((qss_one (qs_ret (qe_and (qe_g (ok_is_whole T) (hr.mono (by decide)) rfl (qa_cons (qe_var 0) qa_nil)) (qe_one (qe_chain op_leQ op_leQ (be_var 1) (be_var 0) (be_var 2)))))))
def p1_Hall___init__ : Rho → Option Bool :=
    (tOn (tNo (tV (qF F_is_from_halls (aC (qV 3) (aC (qC (.int 1)) (aC (qV 2) aN)))))) (tV (q2 leD (qB 2) (q2 mulD (qB 3) (qIf (tV (q2 eqD (qB 4) (qC (.str "look")))) (qC (.int 2)) (qC (.int 4)))))))
def p2_Hall___init__ : Rho → Option Bool :=
    (tOn (tNo (tV (qU (isiD "str") (qB 4)))) (tV (q2 notinD (qB 4) (qC (.tup ((["look", "lie"] : List Str).map D.str))))))
def p3_Hall___init__ : Rho → Option Bool :=
    (tNo (tV (qF F_is_from_halls (aC (qV 2) (aC (qC (.int 3)) (aC (qCB minD (aC (qC (.int 9)) (aC (q2 subD (qB 1) (qC (.int 1))) aN))) aN))))))
def m_Hall___init__ : Rho → Option (List D) :=
    (gGuard (tNo (tV (qF F_is_field (aC (qV 1) aN)))) (gGuard p3_Hall___init__ (gGuard p2_Hall___init__ (gGuard p1_Hall___init__ (fun ρ => ((aC (qV 1) (aC (qV 2) (aC (qV 3) (aC (qV 4) aN)))) ρ).bind perm0132)))))
def F_Hall___init__ : List D → Option (List D) := runNew 5 0 m_Hall___init__
theorem ok_Hall___init__ (T : TXX K mg base) : GC PW w K mg base (CC w K) "Hall" (He.ga K "Hall") 4 4 F_Hall___init__ := by
  obtain ⟨fd, F⟩ : ∃ fd, FunD K "__init__" "Hall.__init__" (defArgs S_Hall___init__) (defBody S_Hall___init__) (defScope S_Hall___init__) [] [] (He.ma K (He.ga K "Hall") "__init__") fd := T.sd.def_ 5
  refine gc_of (k := 3) (N := ["self", "field", "houses", "most", "kind"]) (ps := ["self", "field", "houses", "most", "kind"]) (c := 0) rfl F sc_Hall___init__ rfl (by decide) (F.bindsN fun _ _ _ _ _ _ us hl => match us, hl with | [_, _, _, _, _], _ => rfl) (T.glo 19) (cb_at T 5) (fun cdv Ar outer s H E hcv hr => ?_)
  exact ((qnew_guard (qt_not (qt_val (qe_g (ok_is_field T) (hr.mono (by decide)) rfl (qa_cons (qe_var 1) qa_nil)))) (qnew_guard (qt_not (qt_val (qe_g (ok_is_from_halls T) (hr.mono (by decide)) rfl (qa_cons (qe_var 2) (qa_cons (qe_int_glob rfl (T.int 17)) (qa_cons (qe_callB (bq_min rfl) rfl (T.free 8) rfl (ba_cons (be_q (qe_int_glob rfl (T.int 18))) (ba_cons (be_q (qe_op op_subQ (be_var 1) (be_q qe_int))) ba_nil))) qa_nil)))))) (qnew_guard (qt_w (qw_or (qt_not (qt_val (qe_isi (T := "str") (be_var 4) rfl (T.free 0) rfl rfl (T.free 15) rfl))) (qw_or1 (qt_cmp (op_notinQ hr.toRoom) (be_var 4) (be_q (qe_tupS_glob ["look", "lie"] rfl (T.glo 16) (cb_at T 4))) (by with_unfolding_all rfl))))) (qnew_guard (qt_w (qw_or (qt_not (qt_val (qe_g (ok_is_from_halls T) (hr.mono (by decide)) rfl (qa_cons (qe_var 3) (qa_cons qe_int (qa_cons (qe_var 2) qa_nil)))))) (qw_or1 (qt_cmp op_leQ (be_var 2) (be_q (qe_op op_mulQ (be_var 3) (be_q (qe_if (qt_cmp (op_eqQ hr.toRoom) (be_var 4) (be_q (qe_str_glob rfl (T.str_ 14))) (nomark _)) qe_int qe_int)))) (nomark _))))) (qnew_store (gp := perm0132) (js := [0, 1, 3, 2]) rfl (pgs_slots1 (pg_slot (i0 := 0) rfl (by first | exact Or.inl rfl | exact Or.inr (Or.inl rfl) | exact Or.inr (Or.inr rfl)) (cls_Hall T) (slotOk_ok (cb_at T 3))) (pgs_slots1 (pg_slot (i0 := 0) rfl (by first | exact Or.inl rfl | exact Or.inr (Or.inl rfl) | exact Or.inr (Or.inr rfl)) (cls_Hall T) (slotOk_ok (cb_at T 2))) (pgs_slots1 (pg_slot (i0 := 0) rfl (by first | exact Or.inl rfl | exact Or.inr (Or.inl rfl) | exact Or.inr (Or.inr rfl)) (cls_Hall T) (slotOk_ok (cb_at T 1))) (pgs_slots1 (pg_slot (i0 := 0) rfl (by first | exact Or.inl rfl | exact Or.inr (Or.inl rfl) | exact Or.inr (Or.inr rfl)) (cls_Hall T) (slotOk_ok (cb_at T 0))) pgs_slots0)))) (qa_cons (qe_var 1) (qa_cons (qe_var 2) (qa_cons (qe_var 3) (qa_cons (qe_var 4) qa_nil)))) rfl (by decide) (by decide) hp_0132))))))
def m_Hall_houses : Rho → SRes :=
    (sRet (qU (oatD 0 1) (qV 0)))
def F_Hall_houses : List D → FRes := fun ds => fz (runF 1 m_Hall_houses ds)
theorem ok_Hall_houses (T : TXX K mg base) : GP PW w K mg base (CC w K) (He.ga K "Hall") "houses" 1 F_Hall_houses := by
  obtain ⟨fd, F⟩ : ∃ fd, FunD K "houses" "Hall.houses" (defArgs S_Hall_houses) (defBody S_Hall_houses) (defScope S_Hall_houses) [] [] (gtA K (He.ma K (He.ga K "Hall") "houses")) fd := gfunD (d := d_Hall_houses) (T.go d_Hall_houses (by simp [gds])) (cb_at T 6)
  refine gp_of (k := 0) (N := ["self"]) F sc_Hall_houses (by decide) (F.bindsN fun _ _ _ _ _ _ us hl => match us, hl with | [_], _ => rfl) (cb_at T 7) (cb_at T 8) (fun cdv Ar outer s H E hcv hr => ?_)
  exact ((qss_one (qs_ret (qe_sat (c := 0) (i := 1) rfl (cls_Hall T) (slotOk_ok (cb_at T 2)) (qe_var 0)))))
def m_Hall_most : Rho → SRes :=
    (sRet (qU (oatD 0 3) (qV 0)))
def F_Hall_most : List D → FRes := fun ds => fz (runF 1 m_Hall_most ds)
theorem ok_Hall_most (T : TXX K mg base) : GP PW w K mg base (CC w K) (He.ga K "Hall") "most" 1 F_Hall_most := by
  obtain ⟨fd, F⟩ : ∃ fd, FunD K "most" "Hall.most" (defArgs S_Hall_most) (defBody S_Hall_most) (defScope S_Hall_most) [] [] (gtA K (He.ma K (He.ga K "Hall") "most")) fd := gfunD (d := d_Hall_most) (T.go d_Hall_most (by simp [gds])) (cb_at T 9)
  refine gp_of (k := 0) (N := ["self"]) F sc_Hall_most (by decide) (F.bindsN fun _ _ _ _ _ _ us hl => match us, hl with | [_], _ => rfl) (cb_at T 7) (cb_at T 10) (fun cdv Ar outer s H E hcv hr => ?_)
  exact ((qss_one (qs_ret (qe_sat (c := 0) (i := 3) rfl (cls_Hall T) (slotOk_ok (cb_at T 1)) (qe_var 0)))))
def m_Hall_kind : Rho → SRes :=
    (sRet (qU (oatD 0 2) (qV 0)))
def F_Hall_kind : List D → FRes := fun ds => fz (runF 1 m_Hall_kind ds)
theorem ok_Hall_kind (T : TXX K mg base) : GP PW w K mg base (CC w K) (He.ga K "Hall") "kind" 1 F_Hall_kind := by
  obtain ⟨fd, F⟩ : ∃ fd, FunD K "kind" "Hall.kind" (defArgs S_Hall_kind) (defBody S_Hall_kind) (defScope S_Hall_kind) [] [] (gtA K (He.ma K (He.ga K "Hall") "kind")) fd := gfunD (d := d_Hall_kind) (T.go d_Hall_kind (by simp [gds])) (cb_at T 11)
  refine gp_of (k := 0) (N := ["self"]) F sc_Hall_kind (by decide) (F.bindsN fun _ _ _ _ _ _ us hl => match us, hl with | [_], _ => rfl) (cb_at T 7) (cb_at T 12) (fun cdv Ar outer s H E hcv hr => ?_)
  exact ((qss_one (qs_ret (qe_sat (c := 0) (i := 2) rfl (cls_Hall T) (slotOk_ok (cb_at T 0)) (qe_var 0)))))
def m_Hall_places : Rho → SRes :=
    (sRet (fun ρ => tupO (qLRg (rg2 (qC (.int 1)) (q2 addD (qU (oatD 0 1) (qV 0)) (qC (.int 1)))) ρ)))
def F_Hall_places : List D → FRes := fun ds => fz (runF 1 m_Hall_places ds)
theorem ok_Hall_places (T : TXX K mg base) : GP PW w K mg base (CC w K) (He.ga K "Hall") "places" 1 F_Hall_places := by
  obtain ⟨fd, F⟩ : ∃ fd, FunD K "places" "Hall.places" (defArgs S_Hall_places) (defBody S_Hall_places) (defScope S_Hall_places) [] [] (gtA K (He.ma K (He.ga K "Hall") "places")) fd := gfunD (d := d_Hall_places) (T.go d_Hall_places (by simp [gds])) (cb_at T 13)
  refine gp_of (k := 0) (N := ["self"]) F sc_Hall_places (by decide) (F.bindsN fun _ _ _ _ _ _ us hl => match us, hl with | [_], _ => rfl) (cb_at T 7) (cb_at T 14) (fun cdv Ar outer s H E hcv hr => ?_)
  exact ((qss_one (qs_ret (qe_tupRg rfl rfl (T.free 20) (qr_2 rfl (T.free 9) qe_int (qe_op op_addQ (be_q (qe_sat (c := 0) (i := 1) rfl (cls_Hall T) (slotOk_ok (cb_at T 2)) (qe_var 0))) (be_q qe_int)))))))
def p1_is_lot_within : Rho → Option D :=
    (qF F_is_from_halls (aC (qV 3) (aC (qC (.int 1)) (aC (qU (oatD 0 1) (qV 0)) aN))))
def m_is_lot_within : Rho → SRes :=
    (sC (sIf (tOn (tNo (tV (qU (isiD "tuple") (qB 1)))) (tV (q2 gtD (qCB lenD (aC (qB 1) aN)) (qB 2)))) (sRet (qC (.bl false))) sN)
    (sC (sIf (tNo (tV (qCB allD (aC (fun ρ => lstO ((qLc [3] (iQ (qV 1)) (gV 3) tT p1_is_lot_within) ρ)) aN)))) (sRet (qC (.bl false))) sN)
    (sRet (qCB allD (aC (fun ρ => lstO ((qLc [4, 5] (iC zipD (aC (qV 1) (aC (qSl (qB 1) (pS (qC (.int 1))) pN) aN))) (gT (gC (gV 4) (gC (gV 5) gN))) tT (q2 ltD (qB 4) (qB 5))) ρ)) aN)))))
def F_is_lot_within : List D → FRes := fun ds => fz (runF 6 m_is_lot_within ds)
theorem ok_is_lot_within (T : TXX K mg base) : GQ PW w K mg base (CC w K) "is_lot_within" 3 3 F_is_lot_within := by
  obtain ⟨fd, F⟩ : ∃ fd, FunD K "is_lot_within" "is_lot_within" (defArgs S_is_lot_within) (defBody S_is_lot_within) (defScope S_is_lot_within) [] [] (He.ga K "is_lot_within") fd := T.sd.def_ 6
  refine gqA_of (k := 2) (N := ["hall", "value", "most", "house", "one", "other"]) (ps := ["hall", "value", "most"]) F sc_is_lot_within (by decide) (T.glo 23) (F.bindsN fun _ _ _ _ _ _ us hl => match us, hl with | [_, _, _], _ => rfl) (fun cdv Ar outer s H E hcv hr => ?_)
  exact ((qss_cons (qs_if (qt_w (qw_or (qt_not (qt_val (qe_isi (T := "tuple") (be_var 1) rfl (T.free 0) rfl rfl (T.free 20) rfl))) (qw_or1 (qt_cmp op_gtQ (be_q (qe_callB bq_len rfl (T.free 21) rfl (ba_cons (be_var 1) ba_nil))) (be_var 2) (nomark _))))) (qss_one (qs_ret qe_bl)) qss_nil)
      (qss_cons (qs_if (qt_not (qt_val (qe_callB (bq_all rfl) rfl (T.free 10) rfl (ba_cons (be_q (qe_f (fe_lc [("house", 3)] rfl sc_is_lot_within.nd (qi_seq (qe_var 1)) (blkOk_by rfl) (fun s H Ca cl fp => (qg_name (vs := [3]) (i := 3) sc_is_lot_within.nd rfl (by first | exact Or.inl rfl | exact Or.inr rfl | exact Or.inr (Or.inl rfl)))) (fun s H Ca cl fp => qts_nil) (fun s H Ca cl fp => (qe_g (ok_is_from_halls T) (hr.mono (by decide)) rfl (qa_cons (qe_var 3) (qa_cons qe_int (qa_cons (qe_sat (c := 0) (i := 1) rfl (cls_Hall T) (slotOk_ok (cb_at T 2)) (qe_var 0)) qa_nil)))))))) ba_nil)))) (qss_one (qs_ret qe_bl)) qss_nil)
      (qss_one (qs_ret (qe_callB (bq_all rfl) rfl (T.free 10) rfl (ba_cons (be_q (qe_f (fe_lc [("one", 4), ("other", 5)] rfl sc_is_lot_within.nd (qi_zip rfl (T.free 22) (qa_cons (qe_var 1) (qa_cons (qe_sl (be_var 1) (qp_some qe_int) qp_none) qa_nil))) (blkOk_by rfl) (fun s H Ca cl fp => (qg_tup rfl (qgs_cons (qg_name (vs := [4, 5]) (i := 4) sc_is_lot_within.nd rfl (by first | exact Or.inl rfl | exact Or.inr rfl | exact Or.inr (Or.inl rfl))) (qgs_cons (qg_name (vs := [4, 5]) (i := 5) sc_is_lot_within.nd rfl (by first | exact Or.inl rfl | exact Or.inr rfl | exact Or.inr (Or.inl rfl))) qgs_nil)) (gsLen (gsLen gsLen0)))) (fun s H Ca cl fp => qts_nil) (fun s H Ca cl fp => (qe_cmp op_ltQ (be_var 4) (be_var 5) (nomark _)))))) ba_nil)))))))
def m_Hall_is_lot : Rho → SRes :=
    (sRet (qF F_is_lot_within (aC (qV 0) (aC (qV 1) (aC (qU (oatD 0 3) (qV 0)) aN)))))
def F_Hall_is_lot : List D → FRes := fun ds => fz (runF 2 m_Hall_is_lot ds)
theorem ok_Hall_is_lot (T : TXX K mg base) : GM PW w K mg base (CC w K) (He.ga K "Hall") "is_lot" 4 1 F_Hall_is_lot := by
  obtain ⟨fd, F⟩ : ∃ fd, FunD K "is_lot" "Hall.is_lot" (defArgs S_Hall_is_lot) (defBody S_Hall_is_lot) (defScope S_Hall_is_lot) [] [] (He.ma K (He.ga K "Hall") "is_lot") fd := T.sd.def_ 7
  refine gm_of (k := 3) (N := ["self", "value"]) (ps := ["self", "value"]) F sc_Hall_is_lot rfl (by decide) (F.bindsN fun _ _ _ _ _ _ us hl => match us, hl with | [_, _], _ => rfl) (cb_at T 7) (cb_at T 15) (fun cdv Ar outer s H E hcv hr => ?_)
  exact ((qss_one (qs_ret (qe_g (ok_is_lot_within T) (hr.mono (by decide)) rfl (qa_cons (qe_var 0) (qa_cons (qe_var 1) (qa_cons (qe_sat (c := 0) (i := 3) rfl (cls_Hall T) (slotOk_ok (cb_at T 1)) (qe_var 0)) qa_nil)))))))
def m_is_plain_within (R : List D → FRes) : Rho → SRes :=
    (sC (sIf (tV (qU (isiD "tuple") (qB 0))) (sRet (qAnd (q2 gtD (qB 1) (qC (.int 0))) (qAnd (q2 leD (qCB lenD (aC (qB 0) aN)) (qC (.int 1000))) (qCB allD (aC (fun ρ => lstO ((qLc [2] (iQ (qV 0)) (gV 2) tT (qF R (aC (qV 2) (aC (q2 subD (qB 1) (qC (.int 1))) aN)))) ρ)) aN))))) sN)
    (sRet (qOr (q2 isD (qB 0) (qC .non)) (qAnd (qF F_is_whole (aC (qV 0) aN)) (qChain ltD ltD (qU negD (qC (.int 1000000000000000000000000000000000000000000000000000000000000))) (qB 0) (qC (.int 1000000000000000000000000000000000000000000000000000000000000)))))))
def F_is_plain_within : Nat → List D → FRes
  | 0 => fun ds => fz (runF 3 (fun _ => .bad) ds)
  | n + 1 => fun ds => fz (runF 3 (m_is_plain_within (F_is_plain_within n)) ds)
theorem ok_is_plain_within (T : TXX K mg base) : ∀ n, GQ PW w K mg base (CC w K) "is_plain_within" (2 + n) 2 (F_is_plain_within n) := by
  obtain ⟨fd, F⟩ : ∃ fd, FunD K "is_plain_within" "is_plain_within" (defArgs S_is_plain_within) (defBody S_is_plain_within) (defScope S_is_plain_within) [] [] (He.ga K "is_plain_within") fd := T.sd.def_ 8
  intro n
  induction n with
  | zero => exact gqA_of (k := 1) (N := ["value", "deep", "one"]) (ps := ["value", "deep"]) F sc_is_plain_within (by decide) (T.glo 26) (F.bindsN fun _ _ _ _ _ _ us hl => match us, hl with | [_, _], _ => rfl) (fun cdv Ar outer s H E hcv hr => qss_bad)
  | succ n ih =>
    refine gqA_of (k := 2 + n) (N := ["value", "deep", "one"]) (ps := ["value", "deep"]) F sc_is_plain_within (by decide) (T.glo 26) (F.bindsN fun _ _ _ _ _ _ us hl => match us, hl with | [_, _], _ => rfl) (fun cdv Ar outer s H E hcv hr => ?_)
    exact ((qss_cons (qs_if (qt_val (qe_isi (T := "tuple") (be_var 0) rfl (T.free 0) rfl rfl (T.free 20) rfl)) (qss_one (qs_ret (qe_and (qe_cmp op_gtQ (be_var 1) (be_q qe_int) (nomark _)) (qe_and (qe_cmp op_leQ (be_q (qe_callB bq_len rfl (T.free 21) rfl (ba_cons (be_var 0) ba_nil))) (be_q (qe_int_glob rfl (T.int 24))) (nomark _)) (qe_one (qe_callB (bq_all rfl) rfl (T.free 10) rfl (ba_cons (be_q (qe_f (fe_lc [("one", 2)] rfl sc_is_plain_within.nd (qi_seq (qe_var 0)) (blkOk_by rfl) (fun s H Ca cl fp => (qg_name (vs := [2]) (i := 2) sc_is_plain_within.nd rfl (by first | exact Or.inl rfl | exact Or.inr rfl | exact Or.inr (Or.inl rfl)))) (fun s H Ca cl fp => qts_nil) (fun s H Ca cl fp => (qe_g ih (hr.mono (by omega)) rfl (qa_cons (qe_var 2) (qa_cons (qe_op op_subQ (be_var 1) (be_q qe_int)) qa_nil))))))) ba_nil))))))) qss_nil)
      (qss_one (qs_ret (qe_or (qe_cmp op_isQ (be_var 0) (be_q qe_non) (nomark _)) (qe_one (qe_and (qe_g (ok_is_whole T) (hr.mono (by omega)) rfl (qa_cons (qe_var 0) qa_nil)) (qe_one (qe_chain op_ltQ op_ltQ (be_q (qe_neg (qe_int_glob rfl (T.int 25)))) (be_var 0) (be_q (qe_int_glob rfl (T.int 25))))))))))))
def m_is_plain : Rho → SRes :=
    (sRet (qF (F_is_plain_within 8) (aC (qV 0) (aC (qC (.int 6)) aN))))
def F_is_plain : List D → FRes := fun ds => fz (runF 1 m_is_plain ds)
theorem ok_is_plain (T : TXX K mg base) : GQ PW w K mg base (CC w K) "is_plain" 11 1 F_is_plain := by
  obtain ⟨fd, F⟩ : ∃ fd, FunD K "is_plain" "is_plain" (defArgs S_is_plain) (defBody S_is_plain) (defScope S_is_plain) [] [] (He.ga K "is_plain") fd := T.sd.def_ 9
  refine gqA_of (k := 10) (N := ["value"]) (ps := ["value"]) F sc_is_plain (by decide) (T.glo 28) (F.bindsN fun _ _ _ _ _ _ us hl => match us, hl with | [_], _ => rfl) (fun cdv Ar outer s H E hcv hr => ?_)
  exact ((qss_one (qs_ret (qe_g (ok_is_plain_within T 8) (hr.mono (by decide)) rfl (qa_cons (qe_var 0) (qa_cons (qe_int_glob rfl (T.int 27)) qa_nil))))))
def m_is_from_kings : Rho → SRes :=
    (sRet (qAnd (qU (isiD "int") (qB 0)) (qAnd (qNot (qU (isiD "bool") (qB 0))) (qChain leD leD (qB 1) (qB 0) (qB 2)))))
def F_is_from_kings : List D → FRes := fun ds => fz (runF 3 m_is_from_kings ds)
theorem ok_is_from_kings (T : TXX K mg base) : GQ PW w K mg base (CC w K) "is_from_kings" 1 3 F_is_from_kings := by
  obtain ⟨fd, F⟩ : ∃ fd, FunD K "is_from" "is_from" (defArgs S_is_from_kings) (defBody S_is_from_kings) (defScope S_is_from_kings) [] [] (He.ga K "is_from_kings") fd := T.sd.def_ 10
  refine gqA_of (k := 0) (N := ["value", "least", "most"]) (ps := ["value", "least", "most"]) F sc_is_from_kings (by decide) (T.glo 29) (F.bindsN fun _ _ _ _ _ _ us hl => match us, hl with | [_, _, _], _ => rfl) (fun cdv Ar outer s H E hcv hr => ?_)
  exact ((qss_one (qs_ret (qe_and (qe_isi (T := "int") (be_var 0) rfl (T.free 0) rfl rfl (T.free 1) rfl) (qe_and (qe_not (qe_isi (T := "bool") (be_var 0) rfl (T.free 0) rfl rfl (T.free 2) rfl)) (qe_one (qe_chain op_leQ op_leQ (be_var 1) (be_var 0) (be_var 2))))))))
def m_are_plain : Rho → SRes :=
    (sRet (qAnd (qU (isiD "tuple") (qB 0)) (qAnd (qChain leD leD (qB 1) (qCB lenD (aC (qB 0) aN)) (qB 2)) (qCB allD (aC (fun ρ => lstO ((qLc [3] (iQ (qV 0)) (gV 3) tT (qF F_is_plain (aC (qV 3) aN))) ρ)) aN)))))
def F_are_plain : List D → FRes := fun ds => fz (runF 4 m_are_plain ds)
theorem ok_are_plain (T : TXX K mg base) : GQ PW w K mg base (CC w K) "are_plain" 12 3 F_are_plain := by
  obtain ⟨fd, F⟩ : ∃ fd, FunD K "are_plain" "are_plain" (defArgs S_are_plain) (defBody S_are_plain) (defScope S_are_plain) [] [] (He.ga K "are_plain") fd := T.sd.def_ 11
  refine gqA_of (k := 11) (N := ["value", "least", "most", "one"]) (ps := ["value", "least", "most"]) F sc_are_plain (by decide) (T.glo 30) (F.bindsN fun _ _ _ _ _ _ us hl => match us, hl with | [_, _, _], _ => rfl) (fun cdv Ar outer s H E hcv hr => ?_)
  exact ((qss_one (qs_ret (qe_and (qe_isi (T := "tuple") (be_var 0) rfl (T.free 0) rfl rfl (T.free 20) rfl) (qe_and (qe_chain op_leQ op_leQ (be_var 1) (be_q (qe_callB bq_len rfl (T.free 21) rfl (ba_cons (be_var 0) ba_nil))) (be_var 2)) (qe_one (qe_callB (bq_all rfl) rfl (T.free 10) rfl (ba_cons (be_q (qe_f (fe_lc [("one", 3)] rfl sc_are_plain.nd (qi_seq (qe_var 0)) (blkOk_by rfl) (fun s H Ca cl fp => (qg_name (vs := [3]) (i := 3) sc_are_plain.nd rfl (by first | exact Or.inl rfl | exact Or.inr rfl | exact Or.inr (Or.inl rfl)))) (fun s H Ca cl fp => qts_nil) (fun s H Ca cl fp => (qe_g (ok_is_plain T) (hr.mono (by decide)) rfl (qa_cons (qe_var 3) qa_nil)))))) ba_nil))))))))
def p1_is_line : Rho → Option D :=
    (qF F_is_from_kings (aC (qV 4) (aC (qC (.int 1)) (aC (qU (propD 0 F_Hall_houses) (qV 0)) aN))))
def m_is_line : Rho → SRes :=
    (sC (sIf (tOn (tNo (tV (qU (isiD "tuple") (qB 3)))) (tOn (tV (q2 neD (qCB lenD (aC (qB 3) aN)) (qC (.int 3)))) (tNo (tV (qF F_is_from_kings (aC (q2 ixD (qB 3) (qC (.int 0))) (aC (qC (.int 1)) (aC (qV 2) aN)))))))) (sRet (qC (.bl false))) sN)
    (sC (sIf (tNo (tV (qCB allD (aC (fun ρ => lstO ((qLc [4] (iQ (qSl (qB 3) (pS (qC (.int 1))) pN)) (gV 4) tT p1_is_line) ρ)) aN)))) (sRet (qC (.bl false))) sN)
    (sRet (qAnd (q2 inD (q2 ixD (qB 3) (qC (.int 1))) (qB 1)) (q2 neD (q2 ixD (qB 3) (qC (.int 1))) (q2 ixD (qB 3) (qC (.int 2))))))))
def F_is_line : List D → FRes := fun ds => fz (runF 5 m_is_line ds)
theorem ok_is_line (T : TXX K mg base) : GQ PW w K mg base (CC w K) "is_line" 3 4 F_is_line := by
  obtain ⟨fd, F⟩ : ∃ fd, FunD K "is_line" "is_line" (defArgs S_is_line) (defBody S_is_line) (defScope S_is_line) [] [] (He.ga K "is_line") fd := T.sd.def_ 12
  refine gqA_of (k := 2) (N := ["hall", "lot", "most", "value", "house"]) (ps := ["hall", "lot", "most", "value"]) F sc_is_line (by decide) (T.glo 32) (F.bindsN fun _ _ _ _ _ _ us hl => match us, hl with | [_, _, _, _], _ => rfl) (fun cdv Ar outer s H E hcv hr => ?_)
  exact ((qss_cons (qs_if (qt_w (qw_or (qt_not (qt_val (qe_isi (T := "tuple") (be_var 3) rfl (T.free 0) rfl rfl (T.free 20) rfl))) (qw_or (qt_cmp (op_neQ hr.toRoom) (be_q (qe_callB bq_len rfl (T.free 21) rfl (ba_cons (be_var 3) ba_nil))) (be_q (qe_int_glob rfl (T.int 31))) (nomark _)) (qw_or1 (qt_not (qt_val (qe_g (ok_is_from_kings T) (hr.mono (by decide)) rfl (qa_cons (qe_ix (be_var 3) (be_q qe_int)) (qa_cons qe_int (qa_cons (qe_var 2) qa_nil)))))))))) (qss_one (qs_ret qe_bl)) qss_nil)
      (qss_cons (qs_if (qt_not (qt_val (qe_callB (bq_all rfl) rfl (T.free 10) rfl (ba_cons (be_q (qe_f (fe_lc [("house", 4)] rfl sc_is_line.nd (qi_seq (qe_sl (be_var 3) (qp_some qe_int) qp_none)) (blkOk_by rfl) (fun s H Ca cl fp => (qg_name (vs := [4]) (i := 4) sc_is_line.nd rfl (by first | exact Or.inl rfl | exact Or.inr rfl | exact Or.inr (Or.inl rfl)))) (fun s H Ca cl fp => qts_nil) (fun s H Ca cl fp => (qe_g (ok_is_from_kings T) (hr.mono (by decide)) rfl (qa_cons (qe_var 4) (qa_cons qe_int (qa_cons (qe_prop (c := 0) rfl (ok_Hall_houses T) (hr.mono (by decide)) (qe_var 0)) qa_nil)))))))) ba_nil)))) (qss_one (qs_ret qe_bl)) qss_nil)
      (qss_one (qs_ret (qe_and (qe_cmp (op_inQ hr.toRoom) (be_q (qe_ix (be_var 3) (be_q qe_int))) (be_var 1) (by with_unfolding_all rfl)) (qe_one (qe_cmp (op_neQ hr.toRoom) (be_q (qe_ix (be_var 3) (be_q qe_int))) (be_q (qe_ix (be_var 3) (be_q qe_int))) (nomark _)))))))))
def m_are_lies : Rho → SRes :=
    (sC (sIf (tOn (tNo (tV (qU (isiD "dict") (qB 3)))) (tNo (tV (qCB allD (aC (fun ρ => lstO ((qLc [4] (iD keysD (qV 3)) (gV 4) tT (qF F_is_line (aC (qV 0) (aC (qV 1) (aC (qV 2) (aC (qV 4) aN)))))) ρ)) aN))))) (sRet (qC (.bl false))) sN)
    (sRet (qCB allD (aC (fun ρ => lstO ((qLc [5] (iD valsD (qV 3)) (gV 5) tT (qF F_is_plain (aC (qV 5) aN))) ρ)) aN))))
def F_are_lies : List D → FRes := fun ds => fz (runF 6 m_are_lies ds)
theorem ok_are_lies (T : TXX K mg base) : GQ PW w K mg base (CC w K) "are_lies" 12 4 F_are_lies := by
  obtain ⟨fd, F⟩ : ∃ fd, FunD K "are_lies" "are_lies" (defArgs S_are_lies) (defBody S_are_lies) (defScope S_are_lies) [] [] (He.ga K "are_lies") fd := T.sd.def_ 13
  refine gqA_of (k := 11) (N := ["hall", "lot", "most", "value", "line", "one"]) (ps := ["hall", "lot", "most", "value"]) F sc_are_lies (by decide) (T.glo 34) (F.bindsN fun _ _ _ _ _ _ us hl => match us, hl with | [_, _, _, _], _ => rfl) (fun cdv Ar outer s H E hcv hr => ?_)
  exact ((qss_cons (qs_if (qt_w (qw_or (qt_not (qt_val (qe_isi (T := "dict") (be_var 3) rfl (T.free 0) rfl rfl (T.free 33) rfl))) (qw_or1 (qt_not (qt_val (qe_callB (bq_all rfl) rfl (T.free 10) rfl (ba_cons (be_q (qe_f (fe_lc [("line", 4)] rfl sc_are_lies.nd (qi_dk rfl (qe_var 3)) (blkOk_by rfl) (fun s H Ca cl fp => (qg_name (vs := [4]) (i := 4) sc_are_lies.nd rfl (by first | exact Or.inl rfl | exact Or.inr rfl | exact Or.inr (Or.inl rfl)))) (fun s H Ca cl fp => qts_nil) (fun s H Ca cl fp => (qe_g (ok_is_line T) (hr.mono (by decide)) rfl (qa_cons (qe_var 0) (qa_cons (qe_var 1) (qa_cons (qe_var 2) (qa_cons (qe_var 4) qa_nil))))))))) ba_nil))))))) (qss_one (qs_ret qe_bl)) qss_nil)
      (qss_one (qs_ret (qe_callB (bq_all rfl) rfl (T.free 10) rfl (ba_cons (be_q (qe_f (fe_lc [("one", 5)] rfl sc_are_lies.nd (qi_dv rfl (qe_var 3)) (blkOk_by rfl) (fun s H Ca cl fp => (qg_name (vs := [5]) (i := 5) sc_are_lies.nd rfl (by first | exact Or.inl rfl | exact Or.inr rfl | exact Or.inr (Or.inl rfl)))) (fun s H Ca cl fp => qts_nil) (fun s H Ca cl fp => (qe_g (ok_is_plain T) (hr.mono (by decide)) rfl (qa_cons (qe_var 5) qa_nil)))))) ba_nil))))))
def m_require_hall : Rho → SRes :=
    (sIf (tOn (tNo (tV (qU (isiOwn 0) (qV 0)))) (tV (q2 neD (qU (propD 0 F_Hall_kind) (qV 0)) (qC (.str "lie"))))) (sRaiseT 1) sN)
def F_require_hall : List D → FRes := runF 1 m_require_hall
theorem ok_require_hall (T : TXX K mg base) : GX PW w K mg base (CC w K) "require_hall" 3 1 F_require_hall := by
  obtain ⟨fd, F⟩ : ∃ fd, FunD K "require_hall" "require_hall" (defArgs S_require_hall) (defBody S_require_hall) (defScope S_require_hall) [] [] (He.ga K "require_hall") fd := T.sd.def_ 14
  refine gx_of (k := 2) (N := ["value"]) (ps := ["value"]) F sc_require_hall (by decide) (T.glo 38) (F.bindsN fun _ _ _ _ _ _ us hl => match us, hl with | [_], _ => rfl) (fun cdv Ar outer s H E hcv hr => ?_)
  exact ((qss_one (qs_if (qt_w (qw_or (qt_not (qt_val (qe_isiO (c := 0) rfl (isi_Hall T) (qe_var 0) rfl (T.free 0) rfl rfl (T.glo 19)))) (qw_or1 (qt_cmp (op_neQ hr.toRoom) (be_q (qe_prop (c := 0) rfl (ok_Hall_kind T) (hr.mono (by decide)) (qe_var 0))) (be_q (qe_str_glob rfl (T.str_ 35))) (nomark _))))) (qss_one (qs_raiseF T.toTX 36 37 (c := 1) rfl rfl rfl takes_cx rfl rfl rfl)) qss_nil)))
def m_require_values : Rho → SRes :=
    (sIf (tNo (tV (qF F_are_plain (aC (qV 1) (aC (qU (propD 0 F_Hall_houses) (qV 0)) (aC (qU (propD 0 F_Hall_houses) (qV 0)) aN)))))) (sRaiseT 0) sN)
def F_require_values : List D → FRes := runF 2 m_require_values
theorem ok_require_values (T : TXX K mg base) : GX PW w K mg base (CC w K) "require_values" 13 2 F_require_values := by
  obtain ⟨fd, F⟩ : ∃ fd, FunD K "require_values" "require_values" (defArgs S_require_values) (defBody S_require_values) (defScope S_require_values) [] [] (He.ga K "require_values") fd := T.sd.def_ 15
  refine gx_of (k := 12) (N := ["hall", "values"]) (ps := ["hall", "values"]) F sc_require_values (by decide) (T.glo 41) (F.bindsN fun _ _ _ _ _ _ us hl => match us, hl with | [_, _], _ => rfl) (fun cdv Ar outer s H E hcv hr => ?_)
  exact ((qss_one (qs_if (qt_not (qt_val (qe_g (ok_are_plain T) (hr.mono (by decide)) rfl (qa_cons (qe_var 1) (qa_cons (qe_prop (c := 0) rfl (ok_Hall_houses T) (hr.mono (by decide)) (qe_var 0)) (qa_cons (qe_prop (c := 0) rfl (ok_Hall_houses T) (hr.mono (by decide)) (qe_var 0)) qa_nil)))))) (qss_one (qs_raiseF T.toTX 39 40 (c := 0) rfl rfl rfl takes_cx rfl rfl rfl)) qss_nil)))
def m_require_lot : Rho → SRes :=
    (sIf (tNo (tV (fun ρ => ((qV 0) ρ).bind fun d => ((aC (qV 1) aN) ρ).bind fun ds => methD 0 F_Hall_is_lot d ds))) (sRaiseT 2) sN)
def F_require_lot : List D → FRes := runF 2 m_require_lot
theorem ok_require_lot (T : TXX K mg base) : GX PW w K mg base (CC w K) "require_lot" 5 2 F_require_lot := by
  obtain ⟨fd, F⟩ : ∃ fd, FunD K "require_lot" "require_lot" (defArgs S_require_lot) (defBody S_require_lot) (defScope S_require_lot) [] [] (He.ga K "require_lot") fd := T.sd.def_ 16
  refine gx_of (k := 4) (N := ["hall", "lot"]) (ps := ["hall", "lot"]) F sc_require_lot (by decide) (T.glo 44) (F.bindsN fun _ _ _ _ _ _ us hl => match us, hl with | [_, _], _ => rfl) (fun cdv Ar outer s H E hcv hr => ?_)
  exact ((qss_one (qs_if (qt_not (qt_val (qe_meth (c := 0) rfl (ok_Hall_is_lot T) (hr.mono (by decide)) (qe_var 0) (qa_cons (qe_var 1) qa_nil)))) (qss_one (qs_raiseF T.toTX 42 43 (c := 2) rfl rfl rfl takes_cx rfl rfl rfl)) qss_nil)))
def m_require_lies : Rho → SRes :=
    (sIf (tNo (tV (qF F_are_lies (aC (qV 0) (aC (qV 1) (aC (qV 2) (aC (qV 3) aN))))))) (sRaiseT 3) sN)
def F_require_lies : List D → FRes := runF 4 m_require_lies
theorem ok_require_lies (T : TXX K mg base) : GX PW w K mg base (CC w K) "require_lies" 13 4 F_require_lies := by
  obtain ⟨fd, F⟩ : ∃ fd, FunD K "require_lies" "require_lies" (defArgs S_require_lies) (defBody S_require_lies) (defScope S_require_lies) [] [] (He.ga K "require_lies") fd := T.sd.def_ 17
  refine gx_of (k := 12) (N := ["hall", "lot", "most", "lies"]) (ps := ["hall", "lot", "most", "lies"]) F sc_require_lies (by decide) (T.glo 47) (F.bindsN fun _ _ _ _ _ _ us hl => match us, hl with | [_, _, _, _], _ => rfl) (fun cdv Ar outer s H E hcv hr => ?_)
  exact ((qss_one (qs_if (qt_not (qt_val (qe_g (ok_are_lies T) (hr.mono (by decide)) rfl (qa_cons (qe_var 0) (qa_cons (qe_var 1) (qa_cons (qe_var 2) (qa_cons (qe_var 3) qa_nil))))))) (qss_one (qs_raiseF T.toTX 45 46 (c := 3) rfl rfl rfl takes_cx rfl rfl rfl)) qss_nil)))
def m_most_told : Rho → SRes :=
    (sC (sSet 1 (kD (lift (fun ρ => ((qV 0) ρ).bind (maxKeyD (q2 cntX (qB 0) (qV 2)) ρ)))))
    (sRet (fun ρ => tupO ((aC (qV 1) (aC (q2 cntX (qB 0) (qV 1)) aN)) ρ))))
def F_most_told : List D → FRes := fun ds => fz (runF 2 m_most_told ds)
theorem ok_most_told (T : TXX K mg base) : GQ PW w K mg base (CC w K) "most_told" 3 1 F_most_told := by
  obtain ⟨fd, F⟩ : ∃ fd, FunD K "most_told" "most_told" (defArgs S_most_told) (defBody S_most_told) (defScope S_most_told) [] [] (He.ga K "most_told") fd := T.sd.def_ 18
  refine gqA_of (k := 2) (N := ["values", "best"]) (ps := ["values"]) F sc_most_told (by decide) (T.glo 49) (F.bindsN fun _ _ _ _ _ _ us hl => match us, hl with | [_], _ => rfl) (fun cdv Ar outer s H E hcv hr => ?_)
  have hcv0 := hcv
  exact ((qss_cons (qs_set (i := 1) sc_most_told.nd rfl (by first | exact Or.inl rfl | exact Or.inr rfl | exact Or.inr (Or.inl rfl)) (ke_v (ve_q (qe_maxKey (y := "value") (k := 0) (hr.mono (by decide)) rfl rfl (T.free 48) (qe_var 0) (T.tb _ List.mem_cons_self) hcv (tab_mem List.mem_cons_self) (tab_hu (more_nd T) List.mem_cons_self) (lamS1_by rfl) (show ("value" : Str) ∉ (["values", "best"] : List Str) by decide) rfl (fun _ _ _ _ _ _ => rfl) (fun A outer s H f c' hr => (qe_count hr.u70 (be_var 0) (qe_var 2)))))))
      (qss_one (qs_ret (qe_tup (qa_cons (qe_var 1) (qa_cons (qe_count hr.u70 (be_var 0) (qe_var 1)) qa_nil)))))))
def m_kept_in : Rho → SRes :=
    (sC (sAsg (gT (gC (gV 3) (gC (gV 4) gN))) (lift (qF F_most_told (aC (qV 1) aN))))
    (sRet (qIf (tV (q2 gtD (q2 mulD (qC (.int 2)) (qB 4)) (q2 addD (qU (propD 0 F_Hall_houses) (qV 0)) (q2 mulD (qC (.int 2)) (qU (propD 0 F_Hall_most) (qV 0)))))) (qV 3) (qV 2))))
def F_kept_in : List D → FRes := fun ds => fz (runF 5 m_kept_in ds)
theorem ok_kept_in (T : TXX K mg base) : GQ PW w K mg base (CC w K) "kept_in" 4 3 F_kept_in := by
  obtain ⟨fd, F⟩ : ∃ fd, FunD K "kept_in" "kept_in" (defArgs S_kept_in) (defBody S_kept_in) (defScope S_kept_in) [] [] (He.ga K "kept_in") fd := T.sd.def_ 19
  refine gqA_of (k := 3) (N := ["hall", "heard", "told", "value", "many"]) (ps := ["hall", "heard", "told"]) F sc_kept_in (by decide) (T.glo 50) (F.bindsN fun _ _ _ _ _ _ us hl => match us, hl with | [_, _, _], _ => rfl) (fun cdv Ar outer s H E hcv hr => ?_)
  exact ((qss_cons (qs_asg (ve_q (qe_g (ok_most_told T) (hr.mono (by decide)) rfl (qa_cons (qe_var 1) qa_nil))) (qg_tup rfl (qgs_cons (qg_name (vs := [3, 4]) (i := 3) sc_kept_in.nd rfl (by first | exact Or.inl rfl | exact Or.inr rfl | exact Or.inr (Or.inl rfl))) (qgs_cons (qg_name (vs := [3, 4]) (i := 4) sc_kept_in.nd rfl (by first | exact Or.inl rfl | exact Or.inr rfl | exact Or.inr (Or.inl rfl))) qgs_nil)) (gsLen (gsLen gsLen0))))
      (qss_one (qs_ret (qe_if (qt_cmp op_gtQ (be_q (qe_op op_mulQ (be_q qe_int) (be_var 4))) (be_q (qe_op op_addQ (be_q (qe_prop (c := 0) rfl (ok_Hall_houses T) (hr.mono (by decide)) (qe_var 0))) (be_q (qe_op op_mulQ (be_q qe_int) (be_q (qe_prop (c := 0) rfl (ok_Hall_most T) (hr.mono (by decide)) (qe_var 0))))))) (nomark _)) (qe_var 3) (qe_var 2))))))
def p1_heard_by : Rho → Option D :=
    (q3 getD3 (qV 3) (fun ρ => tupO ((aC (qV 4) (aC (qV 5) (aC (qV 1) aN))) ρ)) (q2 ixD (qB 2) (q2 subD (qB 5) (qC (.int 1)))))
def m_heard_by : Rho → SRes :=
    (sRet (qCB tupleX (aC (fun ρ => lstO ((qLc [5] (iQ (qU (propD 0 F_Hall_places) (qV 0))) (gV 5) tT p1_heard_by) ρ)) aN)))
def F_heard_by : List D → FRes := fun ds => fz (runF 6 m_heard_by ds)
theorem ok_heard_by (T : TXX K mg base) : GQ PW w K mg base (CC w K) "heard_by" 3 5 F_heard_by := by
  obtain ⟨fd, F⟩ : ∃ fd, FunD K "heard_by" "heard_by" (defArgs S_heard_by) (defBody S_heard_by) (defScope S_heard_by) [] [] (He.ga K "heard_by") fd := T.sd.def_ 20
  refine gqA_of (k := 2) (N := ["hall", "house", "values", "lies", "number", "other"]) (ps := ["hall", "house", "values", "lies", "number"]) F sc_heard_by (by decide) (T.glo 51) (F.bindsN fun _ _ _ _ _ _ us hl => match us, hl with | [_, _, _, _, _], _ => rfl) (fun cdv Ar outer s H E hcv hr => ?_)
  exact ((qss_one (qs_ret (qe_callTy bq_tupleX rfl (T.free 20) rfl (ba_cons (be_q (qe_f (fe_lc [("other", 5)] rfl sc_heard_by.nd (qi_seq (qe_prop (c := 0) rfl (ok_Hall_places T) (hr.mono (by decide)) (qe_var 0))) (blkOk_by rfl) (fun s H Ca cl fp => (qg_name (vs := [5]) (i := 5) sc_heard_by.nd rfl (by first | exact Or.inl rfl | exact Or.inr rfl | exact Or.inr (Or.inl rfl)))) (fun s H Ca cl fp => qts_nil) (fun s H Ca cl fp => (qe_get rfl hr.u64 (qe_var 3) (qe_tup (qa_cons (qe_var 4) (qa_cons (qe_var 5) (qa_cons (qe_var 1) qa_nil)))) (qe_ix (be_var 2) (be_q (qe_op op_subQ (be_var 5) (be_q qe_int))))))))) ba_nil)))))
def p1_phase_in : Rho → Option D :=
    (qF F_heard_by (aC (qV 0) (aC (qV 5) (aC (qV 1) (aC (qV 2) (aC (qV 3) aN))))))
def p2_phase_in : Rho → Option D :=
    (qF F_kept_in (aC (qV 0) (aC (q2 ixD (qB 4) (q2 subD (qB 5) (qC (.int 1)))) (aC (q3 getD3 (qV 2) (fun ρ => tupO ((aC (q2 addD (qB 3) (qC (.int 1))) (aC (qV 6) (aC (qV 5) aN))) ρ)) (qV 7)) aN))))
def m_phase_in : Rho → SRes :=
    (sC (sSet 4 (kF (liftF (qLc [5] (iQ (qU (propD 0 F_Hall_places) (qV 0))) (gV 5) tT p1_phase_in))))
    (sC (sSet 6 (kD (lift (q2 fdivD (q2 addD (qB 3) (qC (.int 1))) (qC (.int 2))))))
    (sC (sSet 7 (kD (lift (q2 ixD (qF F_most_told (aC (q2 ixD (qB 4) (q2 subD (qB 6) (qC (.int 1)))) aN)) (qC (.int 0))))))
    (sRet (qCB tupleD (aC (fun ρ => lstO ((qLc [5] (iQ (qU (propD 0 F_Hall_places) (qV 0))) (gV 5) tT p2_phase_in) ρ)) aN))))))
def F_phase_in : List D → FRes := fun ds => fz (runF 8 m_phase_in ds)
theorem ok_phase_in (T : TXX K mg base) : GQ PW w K mg base (CC w K) "phase_in" 5 4 F_phase_in := by
  obtain ⟨fd, F⟩ : ∃ fd, FunD K "phase_in" "phase_in" (defArgs S_phase_in) (defBody S_phase_in) (defScope S_phase_in) [] [] (He.ga K "phase_in") fd := T.sd.def_ 21
  refine gqA_of (k := 4) (N := ["hall", "values", "lies", "number", "heard", "house", "king", "told"]) (ps := ["hall", "values", "lies", "number"]) F sc_phase_in (by decide) (T.glo 52) (F.bindsN fun _ _ _ _ _ _ us hl => match us, hl with | [_, _, _, _], _ => rfl) (fun cdv Ar outer s H E hcv hr => ?_)
  exact ((qss_cons (qs_set (i := 4) sc_phase_in.nd rfl (by first | exact Or.inl rfl | exact Or.inr rfl | exact Or.inr (Or.inl rfl)) (ke_f (vf_f (fe_lc [("house", 5)] rfl sc_phase_in.nd (qi_seq (qe_prop (c := 0) rfl (ok_Hall_places T) (hr.mono (by decide)) (qe_var 0))) (blkOk_by rfl) (fun s H Ca cl fp => (qg_name (vs := [5]) (i := 5) sc_phase_in.nd rfl (by first | exact Or.inl rfl | exact Or.inr rfl | exact Or.inr (Or.inl rfl)))) (fun s H Ca cl fp => qts_nil) (fun s H Ca cl fp => (qe_g (ok_heard_by T) (hr.mono (by decide)) rfl (qa_cons (qe_var 0) (qa_cons (qe_var 5) (qa_cons (qe_var 1) (qa_cons (qe_var 2) (qa_cons (qe_var 3) qa_nil)))))))))))
      (qss_cons (qs_set (i := 6) sc_phase_in.nd rfl (by first | exact Or.inl rfl | exact Or.inr rfl | exact Or.inr (Or.inl rfl)) (ke_v (ve_q (qe_op op_fdivQ (be_q (qe_op op_addQ (be_var 3) (be_q qe_int))) (be_q qe_int)))))
      (qss_cons (qs_set (i := 7) sc_phase_in.nd rfl (by first | exact Or.inl rfl | exact Or.inr rfl | exact Or.inr (Or.inl rfl)) (ke_v (ve_q (qe_ix (be_q (qe_g (ok_most_told T) (hr.mono (by decide)) rfl (qa_cons (qe_ix (be_var 4) (be_q (qe_op op_subQ (be_var 6) (be_q qe_int)))) qa_nil))) (be_q qe_int)))))
      (qss_one (qs_ret (qe_callTy bq_tuple rfl (T.free 20) rfl (ba_cons (be_q (qe_f (fe_lc [("house", 5)] rfl sc_phase_in.nd (qi_seq (qe_prop (c := 0) rfl (ok_Hall_places T) (hr.mono (by decide)) (qe_var 0))) (blkOk_by rfl) (fun s H Ca cl fp => (qg_name (vs := [5]) (i := 5) sc_phase_in.nd rfl (by first | exact Or.inl rfl | exact Or.inr rfl | exact Or.inr (Or.inl rfl)))) (fun s H Ca cl fp => qts_nil) (fun s H Ca cl fp => (qe_g (ok_kept_in T) (hr.mono (by decide)) rfl (qa_cons (qe_var 0) (qa_cons (qe_ix (be_var 4) (be_q (qe_op op_subQ (be_var 5) (be_q qe_int)))) (qa_cons (qe_get rfl hr.u64 (qe_var 2) (qe_tup (qa_cons (qe_op op_addQ (be_var 3) (be_q qe_int)) (qa_cons (qe_var 6) (qa_cons (qe_var 5) qa_nil)))) (qe_var 7)) qa_nil)))))))) ba_nil))))))))
def p1_phases_in : Rho → SRes :=
    (sApp 3 (lift (qF F_phase_in (aC (qV 0) (aC (q2 ixD (qB 3) (qU negD (qC (.int 1)))) (aC (qV 2) (aC (q2 addD (q2 mulD (qC (.int 2)) (qB 4)) (qC (.int 1))) aN)))))))
def m_phases_in : Rho → SRes :=
    (sC (sSet 3 (kF (liftF (aC (qV 1) aN))))
    (sC (sFor (liftF (iC rangeD (aC (q2 addD (qU (propD 0 F_Hall_most) (qV 0)) (qC (.int 1))) aN))) (gV 4) p1_phases_in)
    (sFz 3 (sRet (qV 3)))))
def F_phases_in : List D → FRes := fun ds => fz (runF 5 m_phases_in ds)
theorem ok_phases_in (T : TXX K mg base) : GQ PW w K mg base (CC w K) "phases_in" 6 3 F_phases_in := by
  obtain ⟨fd, F⟩ : ∃ fd, FunD K "phases_in" "phases_in" (defArgs S_phases_in) (defBody S_phases_in) (defScope S_phases_in) [] [] (He.ga K "phases_in") fd := T.sd.def_ 22
  refine gqA_of (k := 5) (N := ["hall", "values", "lies", "found", "phase"]) (ps := ["hall", "values", "lies"]) F sc_phases_in (by decide) (T.glo 53) (F.bindsN fun _ _ _ _ _ _ us hl => match us, hl with | [_, _, _], _ => rfl) (fun cdv Ar outer s H E hcv hr => ?_)
  exact ((qss_cons (qs_set (i := 3) sc_phases_in.nd rfl (by first | exact Or.inl rfl | exact Or.inr rfl | exact Or.inr (Or.inl rfl)) (ke_f (vf_f (fe_lst (qa_cons (qe_var 1) qa_nil)))))
      (qss_cons (qs_for PassesOwn.never rfl (vi_q (qi_range1 rfl (T.free 9) (qa_cons (qe_op op_addQ (be_q (qe_prop (c := 0) rfl (ok_Hall_most T) (hr.mono (by decide)) (qe_var 0))) (be_q qe_int)) qa_nil))) (qg_name (vs := [4]) (i := 4) sc_phases_in.nd rfl (by first | exact Or.inl rfl | exact Or.inr rfl | exact Or.inr (Or.inl rfl))) (qss_one (qs_app (i := 3) rfl (by first | exact Or.inl rfl | exact Or.inr (Or.inl rfl) | exact Or.inr (Or.inr rfl)) (ve_q (qe_g (ok_phase_in T) (hr.mono (by decide)) rfl (qa_cons (qe_var 0) (qa_cons (qe_ix (be_var 3) (be_q (qe_neg qe_int))) (qa_cons (qe_var 2) (qa_cons (qe_op op_addQ (be_q (qe_op op_mulQ (be_q qe_int) (be_var 4))) (be_q qe_int)) qa_nil)))))))))
      (qss_one (qs_frz 3 (qs_ret (qe_var 3)))))))
def m_free_houses : Rho → SRes :=
    (sRet (fun ρ => lstO ((qLc [2] (iQ (qU (propD 0 F_Hall_places) (qV 0))) (gV 2) (tV (q2 notinD (qB 2) (qB 1))) (qV 2)) ρ)))
def F_free_houses : List D → FRes := fun ds => fz (runF 3 m_free_houses ds)
theorem ok_free_houses (T : TXX K mg base) : GQ PW w K mg base (CC w K) "free_houses" 3 2 F_free_houses := by
  obtain ⟨fd, F⟩ : ∃ fd, FunD K "free_houses" "free_houses" (defArgs S_free_houses) (defBody S_free_houses) (defScope S_free_houses) [] [] (He.ga K "free_houses") fd := T.sd.def_ 23
  refine gqA_of (k := 2) (N := ["hall", "lot", "house"]) (ps := ["hall", "lot"]) F sc_free_houses (by decide) (T.glo 54) (F.bindsN fun _ _ _ _ _ _ us hl => match us, hl with | [_, _], _ => rfl) (fun cdv Ar outer s H E hcv hr => ?_)
  exact ((qss_one (qs_ret (qe_f (fe_lc [("house", 2)] rfl sc_free_houses.nd (qi_seq (qe_prop (c := 0) rfl (ok_Hall_places T) (hr.mono (by decide)) (qe_var 0))) (blkOk_by rfl) (fun s H Ca cl fp => (qg_name (vs := [2]) (i := 2) sc_free_houses.nd rfl (by first | exact Or.inl rfl | exact Or.inr rfl | exact Or.inr (Or.inl rfl)))) (fun s H Ca cl fp => (qts_one (qt_cmp (op_notinQ hr.toRoom) (be_var 2) (be_var 1) (by with_unfolding_all rfl)))) (fun s H Ca cl fp => (qe_var 2)))))))
def m_agreed_in : Rho → SRes :=
    (sRet (q2 ixD (q2 ixD (qF F_phases_in (aC (qV 0) (aC (qV 1) (aC (qV 3) aN)))) (qU negD (qC (.int 1)))) (q2 subD (q2 ixD (qF F_free_houses (aC (qV 0) (aC (qV 2) aN))) (qC (.int 0))) (qC (.int 1)))))
def F_agreed_in : List D → FRes := fun ds => fz (runF 4 m_agreed_in ds)
theorem ok_agreed_in (T : TXX K mg base) : GQ PW w K mg base (CC w K) "agreed_in" 7 4 F_agreed_in := by
  obtain ⟨fd, F⟩ : ∃ fd, FunD K "agreed_in" "agreed_in" (defArgs S_agreed_in) (defBody S_agreed_in) (defScope S_agreed_in) [] [] (He.ga K "agreed_in") fd := T.sd.def_ 24
  refine gqA_of (k := 6) (N := ["hall", "values", "lot", "lies"]) (ps := ["hall", "values", "lot", "lies"]) F sc_agreed_in (by decide) (T.glo 55) (F.bindsN fun _ _ _ _ _ _ us hl => match us, hl with | [_, _, _, _], _ => rfl) (fun cdv Ar outer s H E hcv hr => ?_)
  exact ((qss_one (qs_ret (qe_ix (be_q (qe_ix (be_q (qe_g (ok_phases_in T) (hr.mono (by decide)) rfl (qa_cons (qe_var 0) (qa_cons (qe_var 1) (qa_cons (qe_var 3) qa_nil))))) (be_q (qe_neg qe_int)))) (be_q (qe_op op_subQ (be_q (qe_ix (be_q (qe_g (ok_free_houses T) (hr.mono (by decide)) rfl (qa_cons (qe_var 0) (qa_cons (qe_var 2) qa_nil)))) (be_q qe_int))) (be_q qe_int)))))))
def p1_later_lies : Rho → Option (List D) :=
    (lstS (aC (q2 subD (q2 ixD (qB 1) (qC (.int 0))) (qC (.int 1))) (aS (qSl (qB 1) (pS (qC (.int 1))) pN) aN)))
def m_later_lies : Rho → SRes :=
    (sRet (fun ρ => (qDc [1, 2] (iD pairsD (qV 0)) (gT (gC (gV 1) (gC (gV 2) gN))) (tV (q2 gtD (q2 ixD (qB 1) (qC (.int 0))) (qC (.int 1)))) p1_later_lies (qV 2) ρ).map dicW))
def F_later_lies : List D → FRes := fun ds => fz (runF 3 m_later_lies ds)
theorem ok_later_lies (T : TXX K mg base) : GQ PW w K mg base (CC w K) "later_lies" 1 1 F_later_lies := by
  obtain ⟨fd, F⟩ : ∃ fd, FunD K "later_lies" "later_lies" (defArgs S_later_lies) (defBody S_later_lies) (defScope S_later_lies) [] [] (He.ga K "later_lies") fd := T.sd.def_ 25
  refine gqA_of (k := 0) (N := ["lies", "line", "told"]) (ps := ["lies"]) F sc_later_lies (by decide) (T.glo 56) (F.bindsN fun _ _ _ _ _ _ us hl => match us, hl with | [_], _ => rfl) (fun cdv Ar outer s H E hcv hr => ?_)
  exact ((qss_one (qs_ret (qe_dc [("line", 1), ("told", 2)] rfl hr.u64 rfl sc_later_lies.nd (qi_di rfl (qe_var 0)) (blkOk_by rfl) (fun s H Ca cl fp => (qg_tup rfl (qgs_cons (qg_name (vs := [1, 2]) (i := 1) sc_later_lies.nd rfl (by first | exact Or.inl rfl | exact Or.inr rfl | exact Or.inr (Or.inl rfl))) (qgs_cons (qg_name (vs := [1, 2]) (i := 2) sc_later_lies.nd rfl (by first | exact Or.inl rfl | exact Or.inr rfl | exact Or.inr (Or.inl rfl))) qgs_nil)) (gsLen (gsLen gsLen0)))) (fun s H Ca cl fp => (qts_one (qt_cmp op_gtQ (be_q (qe_ix (be_var 1) (be_q qe_int))) (be_q qe_int) (nomark _)))) (fun s H Ca cl fp => (fte_tupS (qas_cons (qe_op op_subQ (be_q (qe_ix (be_var 1) (be_q qe_int))) (be_q qe_int)) (qas_star (be_q (qe_sl (be_var 1) (qp_some qe_int) qp_none)) qas_nil)))) (fun s H Ca cl fp => (qe_var 2))))))
def m_most_heard : Rho → SRes :=
    (sC (sIf (tNo (tV (qF F_are_plain (aC (qV 0) (aC (qC (.int 1)) (aC (qC (.int 9)) aN)))))) (sRaiseT 0) sN)
    (sRet (qF F_most_told (aC (qV 0) aN))))
def F_most_heard : List D → FRes := runF 1 m_most_heard
theorem ok_most_heard (T : TXX K mg base) : GX PW w K mg base (CC w K) "most_heard" 13 1 F_most_heard := by
  obtain ⟨fd, F⟩ : ∃ fd, FunD K "most_heard" "most_heard" (defArgs S_most_heard) (defBody S_most_heard) (defScope S_most_heard) [] [] (He.ga K "most_heard") fd := T.sd.def_ 26
  refine gx_of (k := 12) (N := ["values"]) (ps := ["values"]) F sc_most_heard (by decide) (T.glo 58) (F.bindsN fun _ _ _ _ _ _ us hl => match us, hl with | [_], _ => rfl) (fun cdv Ar outer s H E hcv hr => ?_)
  exact ((qss_cons (qs_if (qt_not (qt_val (qe_g (ok_are_plain T) (hr.mono (by decide)) rfl (qa_cons (qe_var 0) (qa_cons qe_int (qa_cons (qe_int_glob rfl (T.int 57)) qa_nil)))))) (qss_one (qs_raiseF T.toTX 39 40 (c := 0) rfl rfl rfl takes_cx rfl rfl rfl)) qss_nil)
      (qss_one (qs_ret (qe_g (ok_most_told T) (hr.mono (by decide)) rfl (qa_cons (qe_var 0) qa_nil))))))
def m_kept : Rho → SRes :=
    (sC (sEx (vF F_require_hall (mC (lift (qV 0)) mN)))
    (sC (sEx (vF F_require_values (mC (lift (qV 0)) (mC (lift (qV 1)) mN))))
    (sC (sIf (tNo (tV (qF F_is_plain (aC (qV 2) aN)))) (sRaiseT 0) sN)
    (sRet (qF F_kept_in (aC (qV 0) (aC (qV 1) (aC (qV 2) aN))))))))
def F_kept : List D → FRes := runF 3 m_kept
theorem ok_kept (T : TXX K mg base) : GX PW w K mg base (CC w K) "kept" 14 3 F_kept := by
  obtain ⟨fd, F⟩ : ∃ fd, FunD K "kept" "kept" (defArgs S_kept) (defBody S_kept) (defScope S_kept) [] [] (He.ga K "kept") fd := T.sd.def_ 27
  refine gx_of (k := 13) (N := ["hall", "heard", "told"]) (ps := ["hall", "heard", "told"]) F sc_kept (by decide) (T.glo 59) (F.bindsN fun _ _ _ _ _ _ us hl => match us, hl with | [_, _, _], _ => rfl) (fun cdv Ar outer s H E hcv hr => ?_)
  exact ((qss_cons (qs_expr (ve_gx (ok_require_hall T) (hr.mono (by decide)) (fun σ => passAt takes_cx σ) rfl (va_cons (ve_q (qe_var 0)) va_nil) (mLenC mLenN)))
      (qss_cons (qs_expr (ve_gx (ok_require_values T) (hr.mono (by decide)) (fun σ => passAt takes_cx σ) rfl (va_cons (ve_q (qe_var 0)) (va_cons (ve_q (qe_var 1)) va_nil)) (mLenC (mLenC mLenN))))
      (qss_cons (qs_if (qt_not (qt_val (qe_g (ok_is_plain T) (hr.mono (by decide)) rfl (qa_cons (qe_var 2) qa_nil)))) (qss_one (qs_raiseF T.toTX 39 40 (c := 0) rfl rfl rfl takes_cx rfl rfl rfl)) qss_nil)
      (qss_one (qs_ret (qe_g (ok_kept_in T) (hr.mono (by decide)) rfl (qa_cons (qe_var 0) (qa_cons (qe_var 1) (qa_cons (qe_var 2) qa_nil))))))))))
def m_require_talk : Rho → SRes :=
    (sC (sEx (vF F_require_hall (mC (lift (qV 0)) mN)))
    (sC (sEx (vF F_require_values (mC (lift (qV 0)) (mC (lift (qV 1)) mN))))
    (sC (sEx (vF F_require_lot (mC (lift (qV 0)) (mC (lift (qV 2)) mN))))
    (sEx (vF F_require_lies (mC (lift (qV 0)) (mC (lift (qV 2)) (mC (lift (q2 addD (q2 mulD (qC (.int 2)) (qU (propD 0 F_Hall_most) (qV 0))) (qC (.int 2)))) (mC (lift (qV 3)) mN)))))))))
def F_require_talk : List D → FRes := runF 4 m_require_talk
theorem ok_require_talk (T : TXX K mg base) : GX PW w K mg base (CC w K) "require_talk" 14 4 F_require_talk := by
  obtain ⟨fd, F⟩ : ∃ fd, FunD K "require_talk" "require_talk" (defArgs S_require_talk) (defBody S_require_talk) (defScope S_require_talk) [] [] (He.ga K "require_talk") fd := T.sd.def_ 28
  refine gx_of (k := 13) (N := ["hall", "values", "lot", "lies"]) (ps := ["hall", "values", "lot", "lies"]) F sc_require_talk (by decide) (T.glo 60) (F.bindsN fun _ _ _ _ _ _ us hl => match us, hl with | [_, _, _, _], _ => rfl) (fun cdv Ar outer s H E hcv hr => ?_)
  exact ((qss_cons (qs_expr (ve_gx (ok_require_hall T) (hr.mono (by decide)) (fun σ => passAt takes_cx σ) rfl (va_cons (ve_q (qe_var 0)) va_nil) (mLenC mLenN)))
      (qss_cons (qs_expr (ve_gx (ok_require_values T) (hr.mono (by decide)) (fun σ => passAt takes_cx σ) rfl (va_cons (ve_q (qe_var 0)) (va_cons (ve_q (qe_var 1)) va_nil)) (mLenC (mLenC mLenN))))
      (qss_cons (qs_expr (ve_gx (ok_require_lot T) (hr.mono (by decide)) (fun σ => passAt takes_cx σ) rfl (va_cons (ve_q (qe_var 0)) (va_cons (ve_q (qe_var 2)) va_nil)) (mLenC (mLenC mLenN))))
      (qss_one (qs_expr (ve_gx (ok_require_lies T) (hr.mono (by decide)) (fun σ => passAt takes_cx σ) rfl (va_cons (ve_q (qe_var 0)) (va_cons (ve_q (qe_var 2)) (va_cons (ve_q (qe_op op_addQ (be_q (qe_op op_mulQ (be_q qe_int) (be_q (qe_prop (c := 0) rfl (ok_Hall_most T) (hr.mono (by decide)) (qe_var 0))))) (be_q qe_int))) (va_cons (ve_q (qe_var 3)) va_nil)))) (mLenC (mLenC (mLenC (mLenC mLenN)))))))))))
def m_phases : Rho → SRes :=
    (sC (sEx (vF F_require_talk (mC (lift (qV 0)) (mC (lift (qV 1)) (mC (lift (qV 2)) (mC (lift (qV 3)) mN))))))
    (sRet (qCB tupleD (aC (qF F_phases_in (aC (qV 0) (aC (qV 1) (aC (qV 3) aN)))) aN))))
def F_phases : List D → FRes := runF 4 m_phases
theorem ok_phases (T : TXX K mg base) : GX PW w K mg base (CC w K) "phases" 15 4 F_phases := by
  obtain ⟨fd, F⟩ : ∃ fd, FunD K "phases" "phases" (defArgs S_phases) (defBody S_phases) (defScope S_phases) [] [] (He.ga K "phases") fd := T.sd.def_ 29
  refine gx_of (k := 14) (N := ["hall", "values", "lot", "lies"]) (ps := ["hall", "values", "lot", "lies"]) F sc_phases (by decide) (T.glo 61) (F.bindsN fun _ _ _ _ _ _ us hl => match us, hl with | [_, _, _, _], _ => rfl) (fun cdv Ar outer s H E hcv hr => ?_)
  exact ((qss_cons (qs_expr (ve_gx (ok_require_talk T) (hr.mono (by decide)) (fun σ => passAt takes_cx σ) rfl (va_cons (ve_q (qe_var 0)) (va_cons (ve_q (qe_var 1)) (va_cons (ve_q (qe_var 2)) (va_cons (ve_q (qe_var 3)) va_nil)))) (mLenC (mLenC (mLenC (mLenC mLenN))))))
      (qss_one (qs_ret (qe_callTy bq_tuple rfl (T.free 20) rfl (ba_cons (be_q (qe_g (ok_phases_in T) (hr.mono (by decide)) rfl (qa_cons (qe_var 0) (qa_cons (qe_var 1) (qa_cons (qe_var 3) qa_nil))))) ba_nil))))))
def m_agreed : Rho → SRes :=
    (sC (sEx (vF F_require_talk (mC (lift (qV 0)) (mC (lift (qV 1)) (mC (lift (qV 2)) (mC (lift (qV 3)) mN))))))
    (sRet (qF F_agreed_in (aC (qV 0) (aC (qV 1) (aC (qV 2) (aC (qV 3) aN)))))))
def F_agreed : List D → FRes := runF 4 m_agreed
theorem ok_agreed (T : TXX K mg base) : GX PW w K mg base (CC w K) "agreed" 15 4 F_agreed := by
  obtain ⟨fd, F⟩ : ∃ fd, FunD K "agreed" "agreed" (defArgs S_agreed) (defBody S_agreed) (defScope S_agreed) [] [] (He.ga K "agreed") fd := T.sd.def_ 30
  refine gx_of (k := 14) (N := ["hall", "values", "lot", "lies"]) (ps := ["hall", "values", "lot", "lies"]) F sc_agreed (by decide) (T.glo 62) (F.bindsN fun _ _ _ _ _ _ us hl => match us, hl with | [_, _, _, _], _ => rfl) (fun cdv Ar outer s H E hcv hr => ?_)
  exact ((qss_cons (qs_expr (ve_gx (ok_require_talk T) (hr.mono (by decide)) (fun σ => passAt takes_cx σ) rfl (va_cons (ve_q (qe_var 0)) (va_cons (ve_q (qe_var 1)) (va_cons (ve_q (qe_var 2)) (va_cons (ve_q (qe_var 3)) va_nil)))) (mLenC (mLenC (mLenC (mLenC mLenN))))))
      (qss_one (qs_ret (qe_g (ok_agreed_in T) (hr.mono (by decide)) rfl (qa_cons (qe_var 0) (qa_cons (qe_var 1) (qa_cons (qe_var 2) (qa_cons (qe_var 3) qa_nil)))))))))
def p1_walled : Rho → Option D :=
    (q3 getD3 (qV 4) (fun ρ => tupO ((aC (qC (.int 1)) (aC (qV 1) (aC (qV 6) aN))) ρ)) (qV 2))
def m_walled : Rho → SRes :=
    (sC (sEx (vF F_require_hall (mC (lift (qV 0)) mN)))
    (sC (sIf (tNo (tV (qF F_is_from_kings (aC (qV 1) (aC (qC (.int 1)) (aC (qU (propD 0 F_Hall_houses) (qV 0)) aN)))))) (sRaise 4 (lift (qV 1))) sN)
    (sC (sIf (tNo (tV (qF F_is_plain (aC (qV 2) aN)))) (sRaiseT 0) sN)
    (sC (sEx (vF F_require_lot (mC (lift (qV 0)) (mC (lift (qV 3)) mN))))
    (sC (sEx (vF F_require_lies (mC (lift (qV 0)) (mC (lift (qV 3)) (mC (lift (q2 addD (q2 mulD (qC (.int 2)) (qU (propD 0 F_Hall_most) (qV 0))) (qC (.int 3)))) (mC (lift (qV 4)) mN))))))
    (sC (sSet 5 (kD (lift (qCB tupleD (aC (fun ρ => lstO ((qLc [6] (iQ (qU (propD 0 F_Hall_places) (qV 0))) (gV 6) tT p1_walled) ρ)) aN)))))
    (sRet (qF F_agreed_in (aC (qV 0) (aC (qV 5) (aC (qV 3) (aC (qF F_later_lies (aC (qV 4) aN)) aN))))))))))))
def F_walled : List D → FRes := runF 7 m_walled
theorem ok_walled (T : TXX K mg base) : GX PW w K mg base (CC w K) "walled" 14 5 F_walled := by
  obtain ⟨fd, F⟩ : ∃ fd, FunD K "walled" "walled" (defArgs S_walled) (defBody S_walled) (defScope S_walled) [] [] (He.ga K "walled") fd := T.sd.def_ 31
  refine gx_of (k := 13) (N := ["hall", "house", "text", "lot", "lies", "values", "other"]) (ps := ["hall", "house", "text", "lot", "lies"]) F sc_walled (by decide) (T.glo 63) (F.bindsN fun _ _ _ _ _ _ us hl => match us, hl with | [_, _, _, _, _], _ => rfl) (fun cdv Ar outer s H E hcv hr => ?_)
  exact ((qss_cons (qs_expr (ve_gx (ok_require_hall T) (hr.mono (by decide)) (fun σ => passAt takes_cx σ) rfl (va_cons (ve_q (qe_var 0)) va_nil) (mLenC mLenN)))
      (qss_cons (qs_if (qt_not (qt_val (qe_g (ok_is_from_kings T) (hr.mono (by decide)) rfl (qa_cons (qe_var 1) (qa_cons qe_int (qa_cons (qe_prop (c := 0) rfl (ok_Hall_houses T) (hr.mono (by decide)) (qe_var 0)) qa_nil)))))) (qss_one (qs_raise (c := 4) rfl takes_cx (ext_InvalidNumber T).1 bIndexError nf_InvalidNumber hr.toRoom rfl rfl (ve_q (qe_var 1)) rfl)) qss_nil)
      (qss_cons (qs_if (qt_not (qt_val (qe_g (ok_is_plain T) (hr.mono (by decide)) rfl (qa_cons (qe_var 2) qa_nil)))) (qss_one (qs_raiseF T.toTX 39 40 (c := 0) rfl rfl rfl takes_cx rfl rfl rfl)) qss_nil)
      (qss_cons (qs_expr (ve_gx (ok_require_lot T) (hr.mono (by decide)) (fun σ => passAt takes_cx σ) rfl (va_cons (ve_q (qe_var 0)) (va_cons (ve_q (qe_var 3)) va_nil)) (mLenC (mLenC mLenN))))
      (qss_cons (qs_expr (ve_gx (ok_require_lies T) (hr.mono (by decide)) (fun σ => passAt takes_cx σ) rfl (va_cons (ve_q (qe_var 0)) (va_cons (ve_q (qe_var 3)) (va_cons (ve_q (qe_op op_addQ (be_q (qe_op op_mulQ (be_q qe_int) (be_q (qe_prop (c := 0) rfl (ok_Hall_most T) (hr.mono (by decide)) (qe_var 0))))) (be_q (qe_int_glob rfl (T.int 31))))) (va_cons (ve_q (qe_var 4)) va_nil)))) (mLenC (mLenC (mLenC (mLenC mLenN))))))
      (qss_cons (qs_set (i := 5) sc_walled.nd rfl (by first | exact Or.inl rfl | exact Or.inr rfl | exact Or.inr (Or.inl rfl)) (ke_v (ve_q (qe_callTy bq_tuple rfl (T.free 20) rfl (ba_cons (be_q (qe_f (fe_lc [("other", 6)] rfl sc_walled.nd (qi_seq (qe_prop (c := 0) rfl (ok_Hall_places T) (hr.mono (by decide)) (qe_var 0))) (blkOk_by rfl) (fun s H Ca cl fp => (qg_name (vs := [6]) (i := 6) sc_walled.nd rfl (by first | exact Or.inl rfl | exact Or.inr rfl | exact Or.inr (Or.inl rfl)))) (fun s H Ca cl fp => qts_nil) (fun s H Ca cl fp => (qe_get rfl hr.u64 (qe_var 4) (qe_tup (qa_cons qe_int (qa_cons (qe_var 1) (qa_cons (qe_var 6) qa_nil)))) (qe_var 2)))))) ba_nil)))))
      (qss_one (qs_ret (qe_g (ok_agreed_in T) (hr.mono (by decide)) rfl (qa_cons (qe_var 0) (qa_cons (qe_var 5) (qa_cons (qe_var 3) (qa_cons (qe_g (ok_later_lies T) (hr.mono (by decide)) rfl (qa_cons (qe_var 4) qa_nil)) qa_nil))))))))))))))
def m_settling : Rho → SRes :=
    (sC (sEx (vF F_require_talk (mC (lift (qV 0)) (mC (lift (qV 1)) (mC (lift (qV 2)) (mC (lift (qV 3)) mN))))))
    (fun _ => .bad))
def F_settling : List D → FRes := runF 4 m_settling
theorem ok_settling (T : TXX K mg base) : GX PW w K mg base (CC w K) "settling" 15 4 F_settling := by
  obtain ⟨fd, F⟩ : ∃ fd, FunD K "settling" "settling" (defArgs S_settling) (defBody S_settling) (defScope S_settling) [] [] (He.ga K "settling") fd := T.sd.def_ 32
  refine gx_of (k := 14) (N := ["hall", "values", "lot", "lies"]) (ps := ["hall", "values", "lot", "lies"]) F sc_settling (by decide) (T.glo 64) (F.bindsN fun _ _ _ _ _ _ us hl => match us, hl with | [_, _, _, _], _ => rfl) (fun cdv Ar outer s H E hcv hr => ?_)
  exact ((qss_cons (qs_expr (ve_gx (ok_require_talk T) (hr.mono (by decide)) (fun σ => passAt takes_cx σ) rfl (va_cons (ve_q (qe_var 0)) (va_cons (ve_q (qe_var 1)) (va_cons (ve_q (qe_var 2)) (va_cons (ve_q (qe_var 3)) va_nil)))) (mLenC (mLenC (mLenC (mLenC mLenN))))))
      qss_bad))
def G_fn : Nat → List D → FRes := fun n => match n with
  | 0 => F_phases
  | 1 => F_agreed
  | 2 => F_settling
  | _ => fun _ => .bad
theorem gx_mono {C : VL.Ctx} {j k n : Nat} {x : Str} {F : List D → FRes} (G : GX PW w K mg base C x j n F) (h : j ≤ k) : GX PW w K mg base C x k n F := by
  obtain ⟨fd, ps, H, hb⟩ := G.ex
  exact ⟨⟨fd, ps, H.mono h, hb⟩, G.hm, G.hk⟩
theorem gvs (T : TXX K mg base) : GVs PW w K mg base (CC w K) 15 4 G_fn := by
  intro i a h
  match i, h with
  | 0, h => cases h; exact ⟨"phases", gx_mono (ok_phases T) (by decide), rfl⟩
  | 1, h => cases h; exact ⟨"agreed", gx_mono (ok_agreed T) (by decide), rfl⟩
  | 2, h => cases h; exact ⟨"settling", gx_mono (ok_settling T) (by decide), rfl⟩
  | _ + 3, h => cases h
def m_latest : Rho → SRes :=
    (sC (sEx (vF F_require_hall (mC (lift (qV 0)) mN)))
    (sC (sEx (vF F_require_lot (mC (lift (qV 0)) (mC (lift (qV 1)) mN))))
    (sRet (q2 ixD (qF F_free_houses (aC (qV 0) (aC (qV 1) aN))) (qC (.int 0))))))
def F_latest : List D → FRes := runF 2 m_latest
theorem ok_latest (T : TXX K mg base) : GX PW w K mg base (CC w K) "latest" 6 2 F_latest := by
  obtain ⟨fd, F⟩ : ∃ fd, FunD K "latest" "latest" (defArgs S_latest) (defBody S_latest) (defScope S_latest) [] [] (He.ga K "latest") fd := T.sd.def_ 33
  refine gx_of (k := 5) (N := ["hall", "lot"]) (ps := ["hall", "lot"]) F sc_latest (by decide) (T.glo 65) (F.bindsN fun _ _ _ _ _ _ us hl => match us, hl with | [_, _], _ => rfl) (fun cdv Ar outer s H E hcv hr => ?_)
  exact ((qss_cons (qs_expr (ve_gx (ok_require_hall T) (hr.mono (by decide)) (fun σ => passAt takes_cx σ) rfl (va_cons (ve_q (qe_var 0)) va_nil) (mLenC mLenN)))
      (qss_cons (qs_expr (ve_gx (ok_require_lot T) (hr.mono (by decide)) (fun σ => passAt takes_cx σ) rfl (va_cons (ve_q (qe_var 0)) (va_cons (ve_q (qe_var 1)) va_nil)) (mLenC (mLenC mLenN))))
      (qss_one (qs_ret (qe_ix (be_q (qe_g (ok_free_houses T) (hr.mono (by decide)) rfl (qa_cons (qe_var 0) (qa_cons (qe_var 1) qa_nil)))) (be_q qe_int)))))))
def m_late_paper : Rho → SRes :=
    (sC (sPar 2 3 (kD (vF F_latest (mC (lift (qV 0)) (mC (lift (qV 1)) mN)))) (kF (vRep (liftF (aC (qC (.int 0)) aN)) (lift (qU (propD 0 F_Hall_houses) (qV 0))))))
    (fun _ => .bad))
def F_late_paper : List D → FRes := runF 8 m_late_paper
theorem ok_late_paper (T : TXX K mg base) : GX PW w K mg base (CC w K) "late_paper" 7 2 F_late_paper := by
  obtain ⟨fd, F⟩ : ∃ fd, FunD K "late_paper" "late_paper" (defArgs S_late_paper) (defBody S_late_paper) (defScope S_late_paper) [] [] (He.ga K "late_paper") fd := T.sd.def_ 34
  refine gx_of (k := 6) (N := ["hall", "lot", "last", "values", "at", "house", "lies", "king"]) (ps := ["hall", "lot"]) F sc_late_paper (by decide) (T.glo 66) (F.bindsN fun _ _ _ _ _ _ us hl => match us, hl with | [_, _], _ => rfl) (fun cdv Ar outer s H E hcv hr => ?_)
  exact ((qss_cons (qs_par (i := 2) (j := 3) rfl sc_late_paper.nd rfl rfl (by decide) rfl rfl (ke_v (ve_gx (ok_latest T) (hr.mono (by decide)) (fun σ => passAt takes_cx σ) rfl (va_cons (ve_q (qe_var 0)) (va_cons (ve_q (qe_var 1)) va_nil)) (mLenC (mLenC mLenN)))) (ke_f (vf_rep (vf_f (fe_lst (qa_cons qe_int qa_nil))) (ve_q (qe_prop (c := 0) rfl (ok_Hall_houses T) (hr.mono (by decide)) (qe_var 0))))) (by rfl))
      qss_bad))
def m_is_late_paper : Rho → SRes :=
    (sC (sSet 3 (kD (vF F_latest (mC (lift (qV 0)) (mC (lift (qV 1)) mN)))))
    (sC (sIf (tOn (tNo (tV (qU (isiD "tuple") (qB 2)))) (tOn (tV (q2 neD (qCB lenD (aC (qB 2) aN)) (qC (.int 2)))) (tNo (tV (qF F_are_plain (aC (q2 ixD (qB 2) (qC (.int 0))) (aC (qU (propD 0 F_Hall_houses) (qV 0)) (aC (qU (propD 0 F_Hall_houses) (qV 0)) aN)))))))) (sRet (qC (.bl false))) sN)
    (sC (sIf (tNo (tV (qF F_are_lies (aC (qV 0) (aC (qV 1) (aC (q2 addD (q2 mulD (qC (.int 2)) (qU (propD 0 F_Hall_most) (qV 0))) (qC (.int 2))) (aC (q2 ixD (qB 2) (qC (.int 1))) aN))))))) (sRet (qC (.bl false))) sN)
    (fun _ => .bad))))
def F_is_late_paper : List D → FRes := runF 4 m_is_late_paper
theorem ok_is_late_paper (T : TXX K mg base) : GX PW w K mg base (CC w K) "is_late_paper" 13 3 F_is_late_paper := by
  obtain ⟨fd, F⟩ : ∃ fd, FunD K "is_late_paper" "is_late_paper" (defArgs S_is_late_paper) (defBody S_is_late_paper) (defScope S_is_late_paper) [] [] (He.ga K "is_late_paper") fd := T.sd.def_ 35
  refine gx_of (k := 12) (N := ["hall", "lot", "value", "last"]) (ps := ["hall", "lot", "value"]) F sc_is_late_paper (by decide) (T.glo 68) (F.bindsN fun _ _ _ _ _ _ us hl => match us, hl with | [_, _, _], _ => rfl) (fun cdv Ar outer s H E hcv hr => ?_)
  exact ((qss_cons (qs_set (i := 3) sc_is_late_paper.nd rfl (by first | exact Or.inl rfl | exact Or.inr rfl | exact Or.inr (Or.inl rfl)) (ke_v (ve_gx (ok_latest T) (hr.mono (by decide)) (fun σ => passAt takes_cx σ) rfl (va_cons (ve_q (qe_var 0)) (va_cons (ve_q (qe_var 1)) va_nil)) (mLenC (mLenC mLenN)))))
      (qss_cons (qs_if (qt_w (qw_or (qt_not (qt_val (qe_isi (T := "tuple") (be_var 2) rfl (T.free 0) rfl rfl (T.free 20) rfl))) (qw_or (qt_cmp (op_neQ hr.toRoom) (be_q (qe_callB bq_len rfl (T.free 21) rfl (ba_cons (be_var 2) ba_nil))) (be_q (qe_int_glob rfl (T.int 67))) (nomark _)) (qw_or1 (qt_not (qt_val (qe_g (ok_are_plain T) (hr.mono (by decide)) rfl (qa_cons (qe_ix (be_var 2) (be_q qe_int)) (qa_cons (qe_prop (c := 0) rfl (ok_Hall_houses T) (hr.mono (by decide)) (qe_var 0)) (qa_cons (qe_prop (c := 0) rfl (ok_Hall_houses T) (hr.mono (by decide)) (qe_var 0)) qa_nil)))))))))) (qss_one (qs_ret qe_bl)) qss_nil)
      (qss_cons (qs_if (qt_not (qt_val (qe_g (ok_are_lies T) (hr.mono (by decide)) rfl (qa_cons (qe_var 0) (qa_cons (qe_var 1) (qa_cons (qe_op op_addQ (be_q (qe_op op_mulQ (be_q qe_int) (be_q (qe_prop (c := 0) rfl (ok_Hall_most T) (hr.mono (by decide)) (qe_var 0))))) (be_q qe_int)) (qa_cons (qe_ix (be_var 2) (be_q qe_int)) qa_nil))))))) (qss_one (qs_ret qe_bl)) qss_nil)
      qss_bad))))
def m__law_dice : Rho → NRes :=
    (nC (sSet 2 (kD (lift (qIf (tV (q2 ltD (qB 1) (qCB lenD (aC (qB 0) aN)))) (qCB intD (aC (q2 ixD (qB 0) (qB 1)) aN)) (q2 addD (q2 mulD (qC (.int 103)) (qB 1)) (qC (.int 67)))))))
    (nC (sSet 3 (kD (lift (q2 modD (qCB maxD (aC (qC (.int 0)) (aC (q2 subD (qCB absD (aC (qB 2) aN)) (q2 powD (qC (.int 10)) (qC (.int 16)))) aN))) (q2 mulD (q2 powD (qC (.int 10)) (qC (.int 57))) (q2 powD (qC (.int 10)) (qC (.int 60))))))))
    (nRet (liftF (aC (qV 3) (aC (q2 addD (q2 addD (q2 addD (q2 mulD (q2 modD (qCB absD (aC (qB 2) aN)) (qC (.int 1152921504606846733))) (qC (.int 97))) (q2 mulD (qC (.int 1013)) (qB 1))) (q2 mulD (qC (.int 53)) (qCB intD (aC (q2 ltD (qB 2) (qC (.int 0))) aN)))) (qC (.int 41))) (aC (qC (.int 0)) aN)))))))
def F__law_dice : List D → Option (List D) := runN 4 m__law_dice
theorem ok__law_dice (T : TXX K mg base) : GN PW w K mg base (CC w K) "_law_dice" 1 2 F__law_dice := by
  obtain ⟨fd, F⟩ : ∃ fd, FunD K "_law_dice" "_law_dice" (defArgs S__law_dice) (defBody S__law_dice) (defScope S__law_dice) [] [] (He.ga K "_law_dice") fd := T.sd.def_ 36
  refine gn_of (k := 0) (N := ["_law_script", "_law_spot", "_law_cell", "_law_left"]) (ps := ["_law_script", "_law_spot"]) F sc__law_dice (by decide) (T.glo 70) (F.bindsN fun _ _ _ _ _ _ us hl => match us, hl with | [_, _], _ => rfl) (fun cdv Ar outer s H E hcv hr => ?_)
  exact ((qn_cons (qs_set (i := 2) sc__law_dice.nd rfl (by first | exact Or.inl rfl | exact Or.inr rfl | exact Or.inr (Or.inl rfl)) (ke_v (ve_q (qe_if (qt_cmp op_ltQ (be_var 1) (be_q (qe_callB bq_len rfl (T.free 21) rfl (ba_cons (be_var 0) ba_nil))) (nomark _)) (qe_callTy bq_int rfl (T.free 1) rfl (ba_cons (be_q (qe_ix (be_var 0) (be_var 1))) ba_nil)) (qe_op op_addQ (be_q (qe_op op_mulQ (be_q qe_int) (be_var 1))) (be_q qe_int)))))) (qn_cons (qs_set (i := 3) sc__law_dice.nd rfl (by first | exact Or.inl rfl | exact Or.inr rfl | exact Or.inr (Or.inl rfl)) (ke_v (ve_q (qe_op op_modQ (be_q (qe_callB (bq_max rfl) rfl (T.free 48) rfl (ba_cons (be_q qe_int) (ba_cons (be_q (qe_op op_subQ (be_q (qe_callB bq_abs rfl (T.free 69) rfl (ba_cons (be_var 2) ba_nil))) (be_q (qe_op op_powQ (be_q qe_int) (be_q qe_int))))) ba_nil)))) (be_q (qe_op op_mulQ (be_q (qe_op op_powQ (be_q qe_int) (be_q qe_int))) (be_q (qe_op op_powQ (be_q qe_int) (be_q qe_int))))))))) (qn_ret (vf_f (fe_lst (qa_cons (qe_var 3) (qa_cons (qe_op op_addQ (be_q (qe_op op_addQ (be_q (qe_op op_addQ (be_q (qe_op op_mulQ (be_q (qe_op op_modQ (be_q (qe_callB bq_abs rfl (T.free 69) rfl (ba_cons (be_var 2) ba_nil))) (be_q qe_int))) (be_q qe_int))) (be_q (qe_op op_mulQ (be_q qe_int) (be_var 1))))) (be_q (qe_op op_mulQ (be_q qe_int) (be_q (qe_callTy bq_int rfl (T.free 1) rfl (ba_cons (be_q (qe_cmp op_ltQ (be_var 2) (be_q qe_int) (nomark _))) ba_nil))))))) (be_q qe_int)) (qa_cons qe_int qa_nil)))))))))
def m__law_roll : Rho → SRes :=
    (sC (sIf (tV (q2 gtD (q2 ixD (qB 0) (qC (.int 0))) (qC (.int 0)))) (sC (sSet 2 (kD (lift (q2 modD (qCB intD (aC (q2 ixD (qB 0) (qC (.int 0))) aN)) (qB 1)))))
    (sC (sIx 0 (lift (q2 fdivD (q2 ixD (qB 0) (qC (.int 0))) (qB 1))) (lift (qC (.int 0))))
    (sRet (qV 2)))) sN)
    (sC (sIx 0 (lift (q2 addD (q2 ixD (qB 0) (qC (.int 2))) (qC (.int 1)))) (lift (qC (.int 2))))
    (sC (sSet 3 (kD (lift (q2 modD (qCB intD (aC (q2 addD (q2 ixD (qB 0) (qC (.int 1))) (q2 mulD (qC (.int 86028157)) (q2 ixD (qB 0) (qC (.int 2))))) aN)) (qC (.int 2305843009213693487))))))
    (sC (sSet 4 (kD (lift (q2 addD (q2 mulD (q2 modD (qCB intD (aC (q2 addD (q2 mulD (qB 3) (qB 3)) (q2 mulD (qC (.int 101)) (q2 ixD (qB 0) (qC (.int 2))))) aN)) (qC (.int 2305843009213693669))) (qC (.int 6700417))) (qB 3)))))
    (sRet (q2 modD (qCB intD (aC (q2 fdivD (qB 4) (qC (.int 65537))) aN)) (qB 1)))))))
def F__law_roll : FIO := runI 5 m__law_roll
theorem ok__law_roll (T : TXX K mg base) : GI PW w K mg base (CC w K) "_law_roll" 1 1 F__law_roll := by
  obtain ⟨fd, F⟩ : ∃ fd, FunD K "_law_roll" "_law_roll" (defArgs S__law_roll) (defBody S__law_roll) (defScope S__law_roll) [] [] (He.ga K "_law_roll") fd := T.sd.def_ 37
  refine gi_of (k := 0) (N := ["_law_dice_here", "_law_most", "_law_found", "_law_one", "_law_two"]) (ps := ["_law_dice_here", "_law_most"]) F sc__law_roll rfl (by decide) (T.glo 71) (F.bindsN fun _ _ _ _ _ _ us hl => match us, hl with | [_, _], _ => rfl) (fun cdv Ar outer s H E hcv hr => ?_)
  exact ((qss_cons (qs_if (qt_cmp op_gtQ (be_q (qe_ix (be_var 0) (be_q qe_int))) (be_q qe_int) (nomark _)) (qss_cons (qs_set (i := 2) sc__law_roll.nd rfl (by first | exact Or.inl rfl | exact Or.inr rfl | exact Or.inr (Or.inl rfl)) (ke_v (ve_q (qe_op op_modQ (be_q (qe_callTy bq_int rfl (T.free 1) rfl (ba_cons (be_q (qe_ix (be_var 0) (be_q qe_int))) ba_nil))) (be_var 1)))))
      (qss_cons (qs_ix (i := 0) rfl (by first | exact Or.inl rfl | exact Or.inr (Or.inl rfl) | exact Or.inr (Or.inr rfl)) (ve_q (qe_op op_fdivQ (be_q (qe_ix (be_var 0) (be_q qe_int))) (be_var 1))) (ve_q qe_int))
      (qss_one (qs_ret (qe_var 2))))) qss_nil)
      (qss_cons (qs_ix (i := 0) rfl (by first | exact Or.inl rfl | exact Or.inr (Or.inl rfl) | exact Or.inr (Or.inr rfl)) (ve_q (qe_op op_addQ (be_q (qe_ix (be_var 0) (be_q qe_int))) (be_q qe_int))) (ve_q qe_int))
      (qss_cons (qs_set (i := 3) sc__law_roll.nd rfl (by first | exact Or.inl rfl | exact Or.inr rfl | exact Or.inr (Or.inl rfl)) (ke_v (ve_q (qe_op op_modQ (be_q (qe_callTy bq_int rfl (T.free 1) rfl (ba_cons (be_q (qe_op op_addQ (be_q (qe_ix (be_var 0) (be_q qe_int))) (be_q (qe_op op_mulQ (be_q qe_int) (be_q (qe_ix (be_var 0) (be_q qe_int))))))) ba_nil))) (be_q qe_int)))))
      (qss_cons (qs_set (i := 4) sc__law_roll.nd rfl (by first | exact Or.inl rfl | exact Or.inr rfl | exact Or.inr (Or.inl rfl)) (ke_v (ve_q (qe_op op_addQ (be_q (qe_op op_mulQ (be_q (qe_op op_modQ (be_q (qe_callTy bq_int rfl (T.free 1) rfl (ba_cons (be_q (qe_op op_addQ (be_q (qe_op op_mulQ (be_var 3) (be_var 3))) (be_q (qe_op op_mulQ (be_q qe_int) (be_q (qe_ix (be_var 0) (be_q qe_int))))))) ba_nil))) (be_q qe_int))) (be_q qe_int))) (be_var 3)))))
      (qss_one (qs_ret (qe_op op_modQ (be_q (qe_callTy bq_int rfl (T.free 1) rfl (ba_cons (be_q (qe_op op_fdivQ (be_var 4) (be_q qe_int))) ba_nil))) (be_var 1)))))))))
def m__law_pick : Rho → SRes :=
    (sRetV (v2 ixD (lift (qV 1)) (vIO 0 F__law_roll (mC (lift (qCB lenD (aC (qB 1) aN))) mN))))
def F__law_pick : FIO := runI 2 m__law_pick
theorem ok__law_pick (T : TXX K mg base) : GI PW w K mg base (CC w K) "_law_pick" 2 1 F__law_pick := by
  obtain ⟨fd, F⟩ : ∃ fd, FunD K "_law_pick" "_law_pick" (defArgs S__law_pick) (defBody S__law_pick) (defScope S__law_pick) [] [] (He.ga K "_law_pick") fd := T.sd.def_ 38
  refine gi_of (k := 1) (N := ["_law_dice_here", "_law_items"]) (ps := ["_law_dice_here", "_law_items"]) F sc__law_pick rfl (by decide) (T.glo 72) (F.bindsN fun _ _ _ _ _ _ us hl => match us, hl with | [_, _], _ => rfl) (fun cdv Ar outer s H E hcv hr => ?_)
  exact ((qss_one (qs_retV (ve_ix (ve_q (qe_var 1)) (ve_gi (i := 0) (ok__law_roll T) (hr.mono (by decide)) rfl rfl (by first | exact Or.inl rfl | exact Or.inr (Or.inl rfl) | exact Or.inr (Or.inr rfl)) (va_cons (ve_q (qe_callB bq_len rfl (T.free 21) rfl (ba_cons (be_var 1) ba_nil))) va_nil) (mLenC mLenN))))))
def hm_InvalidHall : Nat → Option Bool := fun n => match n with
  | 0 => some false
  | 1 => some true
  | 2 => some false
  | 3 => some false
  | 4 => some false
  | _ => none
theorem hm_InvalidHall_ok (T : TXX K mg base) : ∀ n b, hm_InvalidHall n = some b → PySem.W.exmOne K ((CC w K).cls n) (.ref (He.ga K "InvalidHall")) = some b
  | 0, _, h => by cases h; exact T.exm 73
  | 1, _, h => by cases h; exact T.exm 74
  | 2, _, h => by cases h; exact T.exm 75
  | 3, _, h => by cases h; exact T.exm 76
  | 4, _, h => by cases h; exact T.exm 77
  | _ + 5, _, h => by cases h
def hm_InvalidWord : Nat → Option Bool := fun n => match n with
  | 0 => some true
  | 1 => some false
  | 2 => some false
  | 3 => some false
  | 4 => some false
  | _ => none
theorem hm_InvalidWord_ok (T : TXX K mg base) : ∀ n b, hm_InvalidWord n = some b → PySem.W.exmOne K ((CC w K).cls n) (.ref (He.ga K "InvalidWord")) = some b
  | 0, _, h => by cases h; exact T.exm 78
  | 1, _, h => by cases h; exact T.exm 79
  | 2, _, h => by cases h; exact T.exm 80
  | 3, _, h => by cases h; exact T.exm 81
  | 4, _, h => by cases h; exact T.exm 82
  | _ + 5, _, h => by cases h
def hm_InvalidLot : Nat → Option Bool := fun n => match n with
  | 0 => some false
  | 1 => some false
  | 2 => some true
  | 3 => some false
  | 4 => some false
  | _ => none
theorem hm_InvalidLot_ok (T : TXX K mg base) : ∀ n b, hm_InvalidLot n = some b → PySem.W.exmOne K ((CC w K).cls n) (.ref (He.ga K "InvalidLot")) = some b
  | 0, _, h => by cases h; exact T.exm 83
  | 1, _, h => by cases h; exact T.exm 84
  | 2, _, h => by cases h; exact T.exm 85
  | 3, _, h => by cases h; exact T.exm 86
  | 4, _, h => by cases h; exact T.exm 87
  | _ + 5, _, h => by cases h
def hm_InvalidLies : Nat → Option Bool := fun n => match n with
  | 0 => some false
  | 1 => some false
  | 2 => some false
  | 3 => some true
  | 4 => some false
  | _ => none
theorem hm_InvalidLies_ok (T : TXX K mg base) : ∀ n b, hm_InvalidLies n = some b → PySem.W.exmOne K ((CC w K).cls n) (.ref (He.ga K "InvalidLies")) = some b
  | 0, _, h => by cases h; exact T.exm 88
  | 1, _, h => by cases h; exact T.exm 89
  | 2, _, h => by cases h; exact T.exm 90
  | 3, _, h => by cases h; exact T.exm 91
  | 4, _, h => by cases h; exact T.exm 92
  | _ + 5, _, h => by cases h
def hm_InvalidNumber : Nat → Option Bool := fun n => match n with
  | 0 => some false
  | 1 => some false
  | 2 => some false
  | 3 => some false
  | 4 => some true
  | _ => none
theorem hm_InvalidNumber_ok (T : TXX K mg base) : ∀ n b, hm_InvalidNumber n = some b → PySem.W.exmOne K ((CC w K).cls n) (.ref (He.ga K "InvalidNumber")) = some b
  | 0, _, h => by cases h; exact T.exm 94
  | 1, _, h => by cases h; exact T.exm 95
  | 2, _, h => by cases h; exact T.exm 96
  | 3, _, h => by cases h; exact T.exm 97
  | 4, _, h => by cases h; exact T.exm 98
  | _ + 5, _, h => by cases h
def hds__law_met (K : PySem.W.Frag) : List Hd := [⟨.ref (He.ga K "InvalidHall"), hm_InvalidHall, none, (sRet (fun ρ => tupO ((aC (qC (.str "refused")) (aC (qC (.str "hall")) aN)) ρ)))⟩, ⟨.ref (He.ga K "InvalidWord"), hm_InvalidWord, none, (sRet (fun ρ => tupO ((aC (qC (.str "refused")) (aC (qC (.str "word")) aN)) ρ)))⟩, ⟨.ref (He.ga K "InvalidLot"), hm_InvalidLot, none, (sRet (fun ρ => tupO ((aC (qC (.str "refused")) (aC (qC (.str "lot")) aN)) ρ)))⟩, ⟨.ref (He.ga K "InvalidLies"), hm_InvalidLies, none, (sRet (fun ρ => tupO ((aC (qC (.str "refused")) (aC (qC (.str "lies")) aN)) ρ)))⟩, ⟨.ref (He.ga K "InvalidNumber"), hm_InvalidNumber, (some 1), (sRet (fun ρ => tupO ((aC (qC (.str "refused")) (aC (q2 addD (qC (.str "number ")) (qCB reprD (aC (xfQ 4 (qV 1)) aN))) aN)) ρ)))⟩]
def hv__law_met : Nat → D → Option D := hvOf fldL 2 (hds__law_met [])
def ok__law_met_c : Option D := (fun ρ => tupO ((aC (qC (.str "fine")) aN) ρ)) (blank 2)
theorem ok__law_met (T : TXX K mg base) : ToldOk PW w K mg base (CC w K) k "_law_met" (He.ga K "_law_met") ok__law_met_c hv__law_met := by
  obtain ⟨fd, F⟩ := T.def_ 39
  exact told_ok2 (N := ["_law_call", "error"]) (l := hds__law_met K) (fe := (fun ρ => tupO ((aC (qC (.str "fine")) aN) ρ))) F sc__law_met (F.bindsN fun _ _ _ _ _ _ us hl => match us, hl with | [_], _ => rfl) rfl (by first | exact Or.inl rfl | exact Or.inr (Or.inl rfl)) (by decide) (by decide) (by decide) rfl rfl (fun cdv Ar outer s H hr => (HdsV.cons ⟨rfl, by decide, .inl (T.glo 37)⟩ (hm_InvalidHall_ok T) (fun a oe cls d pn hz hf => (qss_one (qs_ret (qe_tup (qa_cons qe_str (qa_cons qe_str qa_nil)))))) (HdsV.cons ⟨rfl, by decide, .inl (T.glo 40)⟩ (hm_InvalidWord_ok T) (fun a oe cls d pn hz hf => (qss_one (qs_ret (qe_tup (qa_cons qe_str (qa_cons qe_str qa_nil)))))) (HdsV.cons ⟨rfl, by decide, .inl (T.glo 43)⟩ (hm_InvalidLot_ok T) (fun a oe cls d pn hz hf => (qss_one (qs_ret (qe_tup (qa_cons qe_str (qa_cons qe_str qa_nil)))))) (HdsV.cons ⟨rfl, by decide, .inl (T.glo 46)⟩ (hm_InvalidLies_ok T) (fun a oe cls d pn hz hf => (qss_one (qs_ret (qe_tup (qa_cons qe_str (qa_cons qe_str qa_nil)))))) (HdsV.as (i := 1) ⟨rfl, by decide, .inl (T.glo 99)⟩ rfl rfl (hm_InvalidNumber_ok T) (fun a oe cls d pn hz hf => (qss_one (qs_ret (qe_tup (qa_cons qe_str (qa_cons (qe_op op_addQ (be_q qe_str) (be_q (qe_callB (bq_repr hr.gd hr.u64) rfl (T.free 93) rfl (ba_cons (be_q (qe_xf (c0 := 4) rfl rfl (ext_InvalidNumber T).2 (ext_InvalidNumber T).1.noN hz hf (qe_var 1))) ba_nil)))) qa_nil)))))) .nil)))))) (fun cdv Ar outer s H hr => (qe_tup (qa_cons qe_str qa_nil))) rfl
def p1__law_right : Rho → SRes :=
    (sC (sApp 10 (mLam ok__law_met_c hv__law_met (vFv G_fn (qV 12) (mC (lift (qV 3)) (mC (lift (qV 4)) (mC (lift (qV 5)) (mC (lift (qV 7)) mN)))))))
    (sC (sApp 10 (mLam ok__law_met_c hv__law_met (vFv G_fn (qV 12) (mC (lift (qV 1)) (mC (lift (qV 4)) (mC (lift (qV 5)) (mC (lift (qV 7)) mN)))))))
    (sC (sApp 10 (mLam ok__law_met_c hv__law_met (vFv G_fn (qV 12) (mC (lift (qV 1)) (mC (lift (qV 2)) (mC (lift (qV 5)) (mC (lift (qV 7)) mN)))))))
    (sC (sApp 10 (mLam ok__law_met_c hv__law_met (vFv G_fn (qV 12) (mC (lift (qV 1)) (mC (lift (qV 2)) (mC (lift (fun ρ => tupO ((aC (qC (.int 1)) aN) ρ))) (mC (lift (qV 7)) mN)))))))
    (sSet 11 (kF (vCatO 11 (liftF (aC (qC (.str "hall")) (aC (qC (.str "word")) (aC (qC (.str "lot")) (aC (qC (.str "lies")) aN))))))))))))
def m__law_right : Rho → SRes :=
    (sC (sAsg (gT (gC (gV 1) (gC (gV 2) gN))) (lift (fun ρ => tupO ((aC (fun ρ => ((aC (qC (.int 7)) (aC (qC (.int 5)) (aC (qC (.int 1)) (aC (qC (.str "lie")) aN)))) ρ).bind fun ds => (F_Hall___init__ ds).map (D.obj 0)) (aC (fun ρ => tupO ((aC (qC (.int 0)) (aC (qC (.int 1)) (aC (fun ρ => tupO ((aC (qC (.int 2)) (aC (qC (.int 3)) aN)) ρ)) (aC (qC .non) (aC (fun ρ => tupO (aN ρ)) aN))))) ρ)) aN)) ρ))))
    (sC (sSet 3 (kD (vIO 0 F__law_pick (mC (fun ρ => lstR (liftF (aC (qC .non) (aC (fun ρ => ((aC (qC (.int 7)) (aC (qC (.int 5)) (aC (qC (.int 1)) (aC (qC (.str "look")) aN)))) ρ).bind fun ds => (F_Hall___init__ ds).map (D.obj 0)) (aC (qC (.str "lie")) (aC (fun ρ => tupO ((aC (qC (.int 7)) (aC (qC (.int 5)) (aC (qC (.int 1)) (aC (qC (.str "lie")) aN)))) ρ)) (aC (qC (.dic [] [])) (aC (qC (.int 5)) (aC (fun ρ => lstO ((aC (qV 1) aN) ρ)) (aC (fun ρ => ((aC (qC (.int 7)) (aC (qC (.int 3)) (aC (qC (.int 1)) (aC (qC (.str "look")) aN)))) ρ).bind fun ds => (F_Hall___init__ ds).map (D.obj 0)) aN)))))))) ρ)) mN))))
    (sC (sSet 4 (kD (vIO 0 F__law_pick (mC (fun ρ => lstR (liftF (aC (qC .non) (aC (fun ρ => tupO (aN ρ)) (aC (fun ρ => tupO ((aC (qC (.int 0)) (aC (qC (.int 1)) (aC (qC (.int 2)) (aC (qC (.int 3)) aN)))) ρ)) (aC (q2 mulD (fun ρ => tupO ((aC (qC (.int 0)) aN) ρ)) (qC (.int 6))) (aC (fun ρ => lstO ((aC (qC (.int 0)) (aC (qC (.int 1)) (aC (qC (.int 2)) (aC (qC (.int 3)) (aC (qC (.int 4)) aN))))) ρ)) (aC (fun ρ => tupO ((aC (qC (.int 0)) (aC (qC (.int 1)) (aC (qC (.int 2)) (aC (qC (.int 3)) (aC (qC (.bl true)) aN))))) ρ)) (aC (fun ρ => tupO ((aC (qC (.int 0)) (aC (qC (.int 1)) (aC (qC (.int 2)) (aC (qC (.int 3)) (aC (fun ρ => lstO ((aC (qC (.int 4)) aN) ρ)) aN))))) ρ)) (aC (fun ρ => tupO ((aC (qC (.int 0)) (aC (qC (.int 1)) (aC (qC (.int 2)) (aC (qC (.int 3)) (aC (q2 mulSD (qC (.str "x")) (qC (.int 13))) aN))))) ρ)) (aC (qC (.str "01234")) (aC (qC (.dic [] [])) aN)))))))))) ρ)) mN))))
    (sC (sSet 5 (kD (vIO 0 F__law_pick (mC (fun ρ => lstR (liftF (aC (qC .non) (aC (fun ρ => tupO ((aC (qC (.int 1)) (aC (qC (.int 2)) aN)) ρ)) (aC (fun ρ => tupO ((aC (qC (.int 0)) aN) ρ)) (aC (fun ρ => tupO ((aC (qC (.int 6)) aN) ρ)) (aC (fun ρ => lstO ((aC (qC (.int 1)) aN) ρ)) (aC (fun ρ => tupO ((aC (qC (.bl true)) aN) ρ)) (aC (qC (.int 1)) (aC (qC (.str "1")) (aC (fun ρ => tupO ((aC (fun ρ => tupO ((aC (qC (.int 1)) aN) ρ)) aN) ρ)) (aC (fun ρ => tupO ((aC (qC .non) aN) ρ)) aN)))))))))) ρ)) mN))))
    (sC (sSet 6 (kF (liftF (aC (qC .non) (aC (fun ρ => lstO (aN ρ)) (aC (fun ρ => ((dpC (fun ρ => tupO ((aC (qC (.int 1)) (aC (qC (.int 2)) (aC (qC (.int 3)) aN))) ρ)) (qC (.int 0)) dpN) ρ).bind dispD) (aC (fun ρ => ((dpC (fun ρ => tupO ((aC (qC (.int 0)) (aC (qC (.int 1)) (aC (qC (.int 2)) aN))) ρ)) (qC (.int 0)) dpN) ρ).bind dispD) (aC (fun ρ => ((dpC (fun ρ => tupO ((aC (qC (.int 5)) (aC (qC (.int 1)) (aC (qC (.int 2)) aN))) ρ)) (qC (.int 0)) dpN) ρ).bind dispD) (aC (fun ρ => ((dpC (fun ρ => tupO ((aC (qC (.int 1)) (aC (qC (.int 1)) (aC (qC (.int 1)) aN))) ρ)) (qC (.int 0)) dpN) ρ).bind dispD) (aC (fun ρ => ((dpC (fun ρ => tupO ((aC (qC (.int 1)) (aC (qC (.int 1)) (aC (qC (.int 0)) aN))) ρ)) (qC (.int 0)) dpN) ρ).bind dispD) (aC (fun ρ => ((dpC (fun ρ => tupO ((aC (qC (.int 1)) (aC (qC (.int 1)) (aC (qC (.int 6)) aN))) ρ)) (qC (.int 0)) dpN) ρ).bind dispD) (aC (fun ρ => ((dpC (fun ρ => tupO ((aC (qC (.int 1)) (aC (qC (.int 1)) aN)) ρ)) (qC (.int 0)) dpN) ρ).bind dispD) (aC (fun ρ => ((dpC (fun ρ => tupO ((aC (qC (.bl true)) (aC (qC (.int 1)) (aC (qC (.int 2)) aN))) ρ)) (qC (.int 0)) dpN) ρ).bind dispD) aN)))))))))))))
    (sC (sSet 7 (kD (vIO 0 F__law_pick (mC (fun ρ => lstR ((vCatO 6 (liftF (aC (fun ρ => ((dpC (fun ρ => tupO ((aC (qC (.int 1)) (aC (qC (.int 1)) (aC (qC (.int 2)) aN))) ρ)) (qC (.bl true)) dpN) ρ).bind dispD) (aC (fun ρ => ((dpC (fun ρ => tupO ((aC (qC (.int 1)) (aC (qC (.int 1)) (aC (qC (.int 2)) aN))) ρ)) (fun ρ => lstO ((aC (qC (.int 0)) aN) ρ)) dpN) ρ).bind dispD) (aC (q2 disp1 (qC (.str "key")) (qC (.int 0))) (aC (fun ρ => ((dpC (fun ρ => tupO ((aC (qC (.int 1)) (aC (qC (.int 1)) (aC (qC (.int 2)) (aC (qC (.int 3)) aN)))) ρ)) (qC (.int 0)) dpN) ρ).bind dispD) (aC (fun ρ => ((dpC (fun ρ => tupO ((aC (qC (.int 1)) (aC (qC (.str "1")) (aC (qC (.int 2)) aN))) ρ)) (qC (.int 0)) dpN) ρ).bind dispD) (aC (fun ρ => ((dpC (fun ρ => tupO ((aC (qC (.int 1)) (aC (qC (.int 1)) (aC (qC (.int 2)) aN))) ρ)) (q2 mulSD (qC (.str "y")) (qC (.int 13))) dpN) ρ).bind dispD) (aC (fun ρ => tupO (aN ρ)) aN))))))))) ρ)) mN))))
    (sC (sAsg (gT (gC (gV 8) (gC (gV 9) gN))) (vTup (mC (vIO 0 F__law_pick (mC (fun ρ => lstR (liftF (aC (qC .non) (aC (qC (.int 0)) (aC (qC (.int 6)) (aC (qC (.bl true)) (aC (qC (.str "1")) (aC (qU negD (qC (.int 1))) (aC (q2 powD (qC (.int 10)) (qC (.int 60))) aN))))))) ρ)) mN)) (mC (vIO 0 F__law_pick (mC (fun ρ => lstR (liftF (aC (qC (.bl true)) (aC (fun ρ => lstO ((aC (qC (.int 1)) aN) ρ)) (aC (qC (.dic [] [])) (aC (qC (.str "text")) (aC (fun ρ => tupO ((aC (qC (.bl true)) aN) ρ)) (aC (fun ρ => tupO ((aC (fun ρ => lstO (aN ρ)) aN) ρ)) aN)))))) ρ)) mN)) mN))))
    (sC (sPar 10 11 (kF (liftF aN)) (kF (liftF aN)))
    (sC (sFor (liftF (iQ (fun ρ => tupO ((aC (qC (.fn 0)) (aC (qC (.fn 1)) (aC (qC (.fn 2)) aN))) ρ)))) (gV 12) p1__law_right)
    (sC (sApp 10 (mLam ok__law_met_c hv__law_met (vF F_walled (mC (lift (qV 3)) (mC (lift (qV 8)) (mC (lift (qV 9)) (mC (lift (qV 5)) (mC (lift (qV 7)) mN))))))))
    (sC (sApp 10 (mLam ok__law_met_c hv__law_met (vF F_walled (mC (lift (qV 1)) (mC (lift (qV 8)) (mC (lift (qV 9)) (mC (lift (qV 5)) (mC (lift (qV 7)) mN))))))))
    (sC (sApp 10 (mLam ok__law_met_c hv__law_met (vF F_walled (mC (lift (qV 1)) (mC (lift (qC (.int 1))) (mC (lift (qV 9)) (mC (lift (qV 5)) (mC (lift (qV 7)) mN))))))))
    (sC (sApp 10 (mLam ok__law_met_c hv__law_met (vF F_walled (mC (lift (qV 1)) (mC (lift (qC (.int 1))) (mC (lift (fun ρ => tupO ((aC (qC (.int 4)) aN) ρ))) (mC (lift (qV 5)) (mC (lift (qV 7)) mN))))))))
    (sC (sApp 10 (mLam ok__law_met_c hv__law_met (vF F_latest (mC (lift (qV 3)) (mC (lift (qV 5)) mN)))))
    (sC (sApp 10 (mLam ok__law_met_c hv__law_met (vF F_latest (mC (lift (qV 1)) (mC (lift (qV 5)) mN)))))
    (sC (sApp 10 (mLam ok__law_met_c hv__law_met (vF F_late_paper (mC (lift (qV 1)) (mC (lift (qV 5)) mN)))))
    (sC (sApp 10 (mLam ok__law_met_c hv__law_met (vF F_is_late_paper (mC (lift (qV 3)) (mC (lift (qV 5)) (mC (lift (qC .non)) mN))))))
    (sC (sApp 10 (mLam ok__law_met_c hv__law_met (vF F_is_late_paper (mC (lift (qV 1)) (mC (lift (qV 5)) (mC (lift (qC .non)) mN))))))
    (sC (sApp 10 (mLam ok__law_met_c hv__law_met (vF F_kept (mC (lift (qV 3)) (mC (lift (qV 4)) (mC (lift (qV 9)) mN))))))
    (sC (sApp 10 (mLam ok__law_met_c hv__law_met (vF F_kept (mC (lift (qV 1)) (mC (lift (qV 4)) (mC (lift (qV 9)) mN))))))
    (sC (sApp 10 (mLam ok__law_met_c hv__law_met (vF F_kept (mC (lift (qV 1)) (mC (lift (qV 2)) (mC (lift (qV 9)) mN))))))
    (sC (sSet 11 (kF (vCatO 11 (liftF (aC (qC (.str "hall")) (aC (q2 addD (qC (.str "number ")) (qCB reprD (aC (qB 8) aN))) (aC (qC (.str "word")) (aC (qC (.str "lot")) (aC (qC (.str "hall")) (aC (qC (.str "lot")) (aC (qC (.str "lot")) (aC (qC (.str "hall")) (aC (qC (.str "lot")) (aC (qC (.str "hall")) (aC (qC (.str "word")) (aC (qC (.str "word")) aN))))))))))))))))
    (sC (sSet 13 (kD (vIO 0 F__law_pick (mC (fun ρ => lstR (liftF (aC (qC .non) (aC (fun ρ => tupO (aN ρ)) (aC (q2 mulD (fun ρ => tupO ((aC (qC (.int 0)) aN) ρ)) (qC (.int 10))) (aC (fun ρ => lstO ((aC (qC (.int 1)) aN) ρ)) (aC (fun ρ => tupO ((aC (qC (.bl true)) aN) ρ)) (aC (fun ρ => tupO ((aC (q2 mulSD (qC (.str "x")) (qC (.int 13))) aN) ρ)) (aC (qC (.str "values")) (aC (qC (.dic [] [])) (aC (fun ρ => tupO ((aC (fun ρ => tupO ((aC (qC (.int 1)) (aC (fun ρ => lstO ((aC (qC (.int 2)) aN) ρ)) aN)) ρ)) aN) ρ)) aN))))))))) ρ)) mN))))
    (sC (sApp 10 (mLam ok__law_met_c hv__law_met (vF F_most_heard (mC (lift (qV 13)) mN))))
    (sC (sSet 14 (kF (liftF (aC (qC .non) (aC (fun ρ => tupO ((aC (qV 2) (aC (qC .non) aN)) ρ)) (aC (fun ρ => tupO ((aC (qV 4) (aC (qC (.dic [] [])) aN)) ρ)) (aC (qC (.str "paper")) (aC (fun ρ => tupO ((aC (qV 2) (aC (fun ρ => ((dpC (fun ρ => tupO ((aC (qC (.int 1)) (aC (qC (.int 2)) (aC (qC (.int 3)) aN))) ρ)) (qC (.int 0)) dpN) ρ).bind dispD) aN)) ρ)) (aC (fun ρ => tupO ((aC (qV 2) (aC (fun ρ => ((dpC (fun ρ => tupO ((aC (qC (.int 1)) (aC (qC (.int 1)) (aC (qC (.int 2)) aN))) ρ)) (fun ρ => lstO ((aC (qC (.int 0)) aN) ρ)) dpN) ρ).bind dispD) aN)) ρ)) (aC (qC (.dic [] [])) (aC (fun ρ => tupO ((aC (qV 2) (aC (qC (.dic [] [])) (aC (qC (.int 1)) aN))) ρ)) aN)))))))))))
    (sC (sFz 14 (sIfV (mV (v2 isnotD (vF F_is_late_paper (mC (lift (qV 1)) (mC (lift (fun ρ => tupO ((aC (qC (.int 1)) aN) ρ))) (mC (vIO 0 F__law_pick (mC (lift (qV 14)) mN)) mN)))) (lift (qC (.bl false))))) (sRet (qC (.bl false))) sN))
    (sFz 10 (sRetV (v2 eqD (lift (qV 10)) (fun ρ => lstR ((vLc [15] (mI (fun ρ => lstR ((vCatO 11 (liftF (aC (qC (.str "word")) aN))) ρ))) (gV 15) tT (lift (fun ρ => tupO ((aC (qC (.str "refused")) (aC (qV 15) aN)) ρ)))) ρ)))))))))))))))))))))))))))))))
def F__law_right : FIO := runI 16 m__law_right
theorem ok__law_right (T : TXX K mg base) : GI PW w K mg base (CC w K) "_law_right" 18 0 F__law_right := by
  obtain ⟨fd, F⟩ : ∃ fd, FunD K "_law_right" "_law_right" (defArgs S__law_right) (defBody S__law_right) (defScope S__law_right) [] [] (He.ga K "_law_right") fd := T.sd.def_ 40
  refine gi_of (k := 17) (N := ["_law_dice_here", "_law_hall", "_law_good", "_law_none", "_law_values", "_law_crew", "_law_some", "_law_tales", "_law_house", "_law_text", "_law_told", "_law_due", "_law_call", "_law_heard", "_law_wide", "_law_word"]) (ps := ["_law_dice_here"]) F sc__law_right rfl (by decide) (T.glo 102) (F.bindsN fun _ _ _ _ _ _ us hl => match us, hl with | [_], _ => rfl) (fun cdv Ar outer s H E hcv hr => ?_)
  have hcv0 := hcv
  exact ((qss_cons (qs_asg (ve_q (qe_tup (qa_cons (qe_make (c := 0) rfl (ok_Hall___init__ T) (hr.mono (by decide)) rfl (qa_cons qe_int (qa_cons qe_int (qa_cons qe_int (qa_cons qe_str qa_nil))))) (qa_cons (qe_tup (qa_cons qe_int (qa_cons qe_int (qa_cons (qe_tup (qa_cons qe_int (qa_cons qe_int qa_nil))) (qa_cons qe_non (qa_cons (qe_tup qa_nil) qa_nil)))))) qa_nil)))) (qg_tup rfl (qgs_cons (qg_name (vs := [1, 2]) (i := 1) sc__law_right.nd rfl (by first | exact Or.inl rfl | exact Or.inr rfl | exact Or.inr (Or.inl rfl))) (qgs_cons (qg_name (vs := [1, 2]) (i := 2) sc__law_right.nd rfl (by first | exact Or.inl rfl | exact Or.inr rfl | exact Or.inr (Or.inl rfl))) qgs_nil)) (gsLen (gsLen gsLen0))))
      (qss_cons (qs_set (i := 3) sc__law_right.nd rfl (by first | exact Or.inl rfl | exact Or.inr rfl | exact Or.inr (Or.inl rfl)) (ke_v (ve_gi (i := 0) (ok__law_pick T) (hr.mono (by decide)) rfl rfl (by first | exact Or.inl rfl | exact Or.inr (Or.inl rfl) | exact Or.inr (Or.inr rfl)) (va_cons (ve_f (vf_f (fe_lst (qa_cons qe_non (qa_cons (qe_make (c := 0) rfl (ok_Hall___init__ T) (hr.mono (by decide)) rfl (qa_cons qe_int (qa_cons qe_int (qa_cons qe_int (qa_cons qe_str qa_nil))))) (qa_cons qe_str (qa_cons (qe_tup (qa_cons qe_int (qa_cons qe_int (qa_cons qe_int (qa_cons qe_str qa_nil))))) (qa_cons qe_dict0 (qa_cons qe_int (qa_cons (qe_f (fe_lst (qa_cons (qe_var 1) qa_nil))) (qa_cons (qe_make (c := 0) rfl (ok_Hall___init__ T) (hr.mono (by decide)) rfl (qa_cons qe_int (qa_cons qe_int (qa_cons qe_int (qa_cons qe_str qa_nil))))) qa_nil))))))))))) va_nil) (mLenC mLenN))))
      (qss_cons (qs_set (i := 4) sc__law_right.nd rfl (by first | exact Or.inl rfl | exact Or.inr rfl | exact Or.inr (Or.inl rfl)) (ke_v (ve_gi (i := 0) (ok__law_pick T) (hr.mono (by decide)) rfl rfl (by first | exact Or.inl rfl | exact Or.inr (Or.inl rfl) | exact Or.inr (Or.inr rfl)) (va_cons (ve_f (vf_f (fe_lst (qa_cons qe_non (qa_cons (qe_tup qa_nil) (qa_cons (qe_tup (qa_cons qe_int (qa_cons qe_int (qa_cons qe_int (qa_cons qe_int qa_nil))))) (qa_cons (qe_op op_mulQ (be_q (qe_tup (qa_cons qe_int qa_nil))) (be_q qe_int)) (qa_cons (qe_f (fe_lst (qa_cons qe_int (qa_cons qe_int (qa_cons qe_int (qa_cons qe_int (qa_cons qe_int qa_nil))))))) (qa_cons (qe_tup (qa_cons qe_int (qa_cons qe_int (qa_cons qe_int (qa_cons qe_int (qa_cons qe_bl qa_nil)))))) (qa_cons (qe_tup (qa_cons qe_int (qa_cons qe_int (qa_cons qe_int (qa_cons qe_int (qa_cons (qe_f (fe_lst (qa_cons qe_int qa_nil))) qa_nil)))))) (qa_cons (qe_tup (qa_cons qe_int (qa_cons qe_int (qa_cons qe_int (qa_cons qe_int (qa_cons (qe_op op_mulS (be_q qe_str) (be_q qe_int)) qa_nil)))))) (qa_cons qe_str (qa_cons qe_dict0 qa_nil))))))))))))) va_nil) (mLenC mLenN))))
      (qss_cons (qs_set (i := 5) sc__law_right.nd rfl (by first | exact Or.inl rfl | exact Or.inr rfl | exact Or.inr (Or.inl rfl)) (ke_v (ve_gi (i := 0) (ok__law_pick T) (hr.mono (by decide)) rfl rfl (by first | exact Or.inl rfl | exact Or.inr (Or.inl rfl) | exact Or.inr (Or.inr rfl)) (va_cons (ve_f (vf_f (fe_lst (qa_cons qe_non (qa_cons (qe_tup (qa_cons qe_int (qa_cons qe_int qa_nil))) (qa_cons (qe_tup (qa_cons qe_int qa_nil)) (qa_cons (qe_tup (qa_cons qe_int qa_nil)) (qa_cons (qe_f (fe_lst (qa_cons qe_int qa_nil))) (qa_cons (qe_tup (qa_cons qe_bl qa_nil)) (qa_cons qe_int (qa_cons qe_str (qa_cons (qe_tup (qa_cons (qe_tup (qa_cons qe_int qa_nil)) qa_nil)) (qa_cons (qe_tup (qa_cons qe_non qa_nil)) qa_nil))))))))))))) va_nil) (mLenC mLenN))))
      (qss_cons (qs_set (i := 6) sc__law_right.nd rfl (by first | exact Or.inl rfl | exact Or.inr rfl | exact Or.inr (Or.inl rfl)) (ke_f (vf_f (fe_lst (qa_cons qe_non (qa_cons (qe_f (fe_lst qa_nil)) (qa_cons (qe_disp rfl hr.u64 (qps_cons (qe_tup (qa_cons qe_int (qa_cons qe_int (qa_cons qe_int qa_nil)))) qe_int qps_nil)) (qa_cons (qe_disp rfl hr.u64 (qps_cons (qe_tup (qa_cons qe_int (qa_cons qe_int (qa_cons qe_int qa_nil)))) qe_int qps_nil)) (qa_cons (qe_disp rfl hr.u64 (qps_cons (qe_tup (qa_cons qe_int (qa_cons qe_int (qa_cons qe_int qa_nil)))) qe_int qps_nil)) (qa_cons (qe_disp rfl hr.u64 (qps_cons (qe_tup (qa_cons qe_int (qa_cons qe_int (qa_cons qe_int qa_nil)))) qe_int qps_nil)) (qa_cons (qe_disp rfl hr.u64 (qps_cons (qe_tup (qa_cons qe_int (qa_cons qe_int (qa_cons qe_int qa_nil)))) qe_int qps_nil)) (qa_cons (qe_disp rfl hr.u64 (qps_cons (qe_tup (qa_cons qe_int (qa_cons qe_int (qa_cons qe_int qa_nil)))) qe_int qps_nil)) (qa_cons (qe_disp rfl hr.u64 (qps_cons (qe_tup (qa_cons qe_int (qa_cons qe_int qa_nil))) qe_int qps_nil)) (qa_cons (qe_disp rfl hr.u64 (qps_cons (qe_tup (qa_cons qe_bl (qa_cons qe_int (qa_cons qe_int qa_nil)))) qe_int qps_nil)) qa_nil))))))))))))))
      (qss_cons (qs_set (i := 7) sc__law_right.nd rfl (by first | exact Or.inl rfl | exact Or.inr rfl | exact Or.inr (Or.inl rfl)) (ke_v (ve_gi (i := 0) (ok__law_pick T) (hr.mono (by decide)) rfl rfl (by first | exact Or.inl rfl | exact Or.inr (Or.inl rfl) | exact Or.inr (Or.inr rfl)) (va_cons (ve_f (vf_catO (i := 6) rfl (by first | exact Or.inl rfl | exact Or.inr (Or.inl rfl) | exact Or.inr (Or.inr rfl)) (vf_f (fe_lst (qa_cons (qe_disp rfl hr.u64 (qps_cons (qe_tup (qa_cons qe_int (qa_cons qe_int (qa_cons qe_int qa_nil)))) qe_bl qps_nil)) (qa_cons (qe_disp rfl hr.u64 (qps_cons (qe_tup (qa_cons qe_int (qa_cons qe_int (qa_cons qe_int qa_nil)))) (qe_f (fe_lst (qa_cons qe_int qa_nil))) qps_nil)) (qa_cons (qe_disp1 rfl qe_str qe_int) (qa_cons (qe_disp rfl hr.u64 (qps_cons (qe_tup (qa_cons qe_int (qa_cons qe_int (qa_cons qe_int (qa_cons qe_int qa_nil))))) qe_int qps_nil)) (qa_cons (qe_disp rfl hr.u64 (qps_cons (qe_tup (qa_cons qe_int (qa_cons qe_str (qa_cons qe_int qa_nil)))) qe_int qps_nil)) (qa_cons (qe_disp rfl hr.u64 (qps_cons (qe_tup (qa_cons qe_int (qa_cons qe_int (qa_cons qe_int qa_nil)))) (qe_op op_mulS (be_q qe_str) (be_q qe_int)) qps_nil)) (qa_cons (qe_tup qa_nil) qa_nil))))))))))) va_nil) (mLenC mLenN))))
      (qss_cons (qs_asg (ve_tup (va_cons (ve_gi (i := 0) (ok__law_pick T) (hr.mono (by decide)) rfl rfl (by first | exact Or.inl rfl | exact Or.inr (Or.inl rfl) | exact Or.inr (Or.inr rfl)) (va_cons (ve_f (vf_f (fe_lst (qa_cons qe_non (qa_cons qe_int (qa_cons qe_int (qa_cons qe_bl (qa_cons qe_str (qa_cons (qe_neg qe_int) (qa_cons (qe_op op_powQ (be_q qe_int) (be_q qe_int)) qa_nil)))))))))) va_nil) (mLenC mLenN)) (va_cons (ve_gi (i := 0) (ok__law_pick T) (hr.mono (by decide)) rfl rfl (by first | exact Or.inl rfl | exact Or.inr (Or.inl rfl) | exact Or.inr (Or.inr rfl)) (va_cons (ve_f (vf_f (fe_lst (qa_cons qe_bl (qa_cons (qe_f (fe_lst (qa_cons qe_int qa_nil))) (qa_cons qe_dict0 (qa_cons qe_str (qa_cons (qe_tup (qa_cons qe_bl qa_nil)) (qa_cons (qe_tup (qa_cons (qe_f (fe_lst qa_nil)) qa_nil)) qa_nil))))))))) va_nil) (mLenC mLenN)) va_nil)) (mLe' (mLenC (mLenC mLenN)))) (qg_tup rfl (qgs_cons (qg_name (vs := [8, 9]) (i := 8) sc__law_right.nd rfl (by first | exact Or.inl rfl | exact Or.inr rfl | exact Or.inr (Or.inl rfl))) (qgs_cons (qg_name (vs := [8, 9]) (i := 9) sc__law_right.nd rfl (by first | exact Or.inl rfl | exact Or.inr rfl | exact Or.inr (Or.inl rfl))) qgs_nil)) (gsLen (gsLen gsLen0))))
      (qss_cons (qs_par (i := 10) (j := 11) rfl sc__law_right.nd rfl rfl (by decide) rfl rfl (ke_f (vf_f (fe_lst qa_nil))) (ke_f (vf_f (fe_lst qa_nil))) (by rfl))
      (qss_cons (qs_for PassesOwn.never rfl (vi_q (qi_seq (qe_tup (qa_cons (qe_fn (n := 0) rfl (T.glo 61) rfl) (qa_cons (qe_fn (n := 1) rfl (T.glo 62) rfl) (qa_cons (qe_fn (n := 2) rfl (T.glo 64) rfl) qa_nil)))))) (qg_name (vs := [12]) (i := 12) sc__law_right.nd rfl (by first | exact Or.inl rfl | exact Or.inr rfl | exact Or.inr (Or.inl rfl))) (qss_cons (qs_app (i := 10) rfl (by first | exact Or.inl rfl | exact Or.inr (Or.inl rfl) | exact Or.inr (Or.inr rfl)) (ve_lam (k := 15) (ok__law_met T) rfl (T.glo 100) (T.keep 101) (T.tb _ (List.mem_cons_of_mem _ List.mem_cons_self)) hcv (tab_mem (List.mem_cons_of_mem _ List.mem_cons_self)) (tab_hu (more_nd T) (List.mem_cons_of_mem _ List.mem_cons_self)) (hr.mono (by decide)) (LamX.lamS_by rfl) rfl (fun _ _ _ _ _ => rfl) (fun A outer s H E f c' hr => (ve_callVar (i := 12) (gvs T) (hr.mono (by decide)) (fun σ => passAt takes_lam σ) rfl (by first | exact Or.inl rfl | exact Or.inr (Or.inl rfl) | exact Or.inr (Or.inr rfl)) (va_cons (ve_q (qe_var 3)) (va_cons (ve_q (qe_var 4)) (va_cons (ve_q (qe_var 5)) (va_cons (ve_q (qe_var 7)) va_nil)))) (mLenC (mLenC (mLenC (mLenC mLenN))))))))
      (qss_cons (qs_app (i := 10) rfl (by first | exact Or.inl rfl | exact Or.inr (Or.inl rfl) | exact Or.inr (Or.inr rfl)) (ve_lam (k := 15) (ok__law_met T) rfl (T.glo 100) (T.keep 101) (T.tb _ (List.mem_cons_of_mem _ List.mem_cons_self)) hcv (tab_mem (List.mem_cons_of_mem _ List.mem_cons_self)) (tab_hu (more_nd T) (List.mem_cons_of_mem _ List.mem_cons_self)) (hr.mono (by decide)) (LamX.lamS_by rfl) rfl (fun _ _ _ _ _ => rfl) (fun A outer s H E f c' hr => (ve_callVar (i := 12) (gvs T) (hr.mono (by decide)) (fun σ => passAt takes_lam σ) rfl (by first | exact Or.inl rfl | exact Or.inr (Or.inl rfl) | exact Or.inr (Or.inr rfl)) (va_cons (ve_q (qe_var 1)) (va_cons (ve_q (qe_var 4)) (va_cons (ve_q (qe_var 5)) (va_cons (ve_q (qe_var 7)) va_nil)))) (mLenC (mLenC (mLenC (mLenC mLenN))))))))
      (qss_cons (qs_app (i := 10) rfl (by first | exact Or.inl rfl | exact Or.inr (Or.inl rfl) | exact Or.inr (Or.inr rfl)) (ve_lam (k := 15) (ok__law_met T) rfl (T.glo 100) (T.keep 101) (T.tb _ (List.mem_cons_of_mem _ List.mem_cons_self)) hcv (tab_mem (List.mem_cons_of_mem _ List.mem_cons_self)) (tab_hu (more_nd T) (List.mem_cons_of_mem _ List.mem_cons_self)) (hr.mono (by decide)) (LamX.lamS_by rfl) rfl (fun _ _ _ _ _ => rfl) (fun A outer s H E f c' hr => (ve_callVar (i := 12) (gvs T) (hr.mono (by decide)) (fun σ => passAt takes_lam σ) rfl (by first | exact Or.inl rfl | exact Or.inr (Or.inl rfl) | exact Or.inr (Or.inr rfl)) (va_cons (ve_q (qe_var 1)) (va_cons (ve_q (qe_var 2)) (va_cons (ve_q (qe_var 5)) (va_cons (ve_q (qe_var 7)) va_nil)))) (mLenC (mLenC (mLenC (mLenC mLenN))))))))
      (qss_cons (qs_app (i := 10) rfl (by first | exact Or.inl rfl | exact Or.inr (Or.inl rfl) | exact Or.inr (Or.inr rfl)) (ve_lam (k := 15) (ok__law_met T) rfl (T.glo 100) (T.keep 101) (T.tb _ (List.mem_cons_of_mem _ List.mem_cons_self)) hcv (tab_mem (List.mem_cons_of_mem _ List.mem_cons_self)) (tab_hu (more_nd T) (List.mem_cons_of_mem _ List.mem_cons_self)) (hr.mono (by decide)) (LamX.lamS_by rfl) rfl (fun _ _ _ _ _ => rfl) (fun A outer s H E f c' hr => (ve_callVar (i := 12) (gvs T) (hr.mono (by decide)) (fun σ => passAt takes_lam σ) rfl (by first | exact Or.inl rfl | exact Or.inr (Or.inl rfl) | exact Or.inr (Or.inr rfl)) (va_cons (ve_q (qe_var 1)) (va_cons (ve_q (qe_var 2)) (va_cons (ve_q (qe_tup (qa_cons qe_int qa_nil))) (va_cons (ve_q (qe_var 7)) va_nil)))) (mLenC (mLenC (mLenC (mLenC mLenN))))))))
      (qss_one (qs_set (i := 11) sc__law_right.nd rfl (by first | exact Or.inl rfl | exact Or.inr rfl | exact Or.inr (Or.inl rfl)) (ke_f (vf_catO (i := 11) rfl (by first | exact Or.inl rfl | exact Or.inr (Or.inl rfl) | exact Or.inr (Or.inr rfl)) (vf_f (fe_lst (qa_cons qe_str (qa_cons qe_str (qa_cons qe_str (qa_cons qe_str qa_nil)))))))))))))))
      (qss_cons (qs_app (i := 10) rfl (by first | exact Or.inl rfl | exact Or.inr (Or.inl rfl) | exact Or.inr (Or.inr rfl)) (ve_lam (k := 14) (ok__law_met T) rfl (T.glo 100) (T.keep 101) (T.tb _ (List.mem_cons_of_mem _ List.mem_cons_self)) hcv (tab_mem (List.mem_cons_of_mem _ List.mem_cons_self)) (tab_hu (more_nd T) (List.mem_cons_of_mem _ List.mem_cons_self)) (hr.mono (by decide)) (LamX.lamS_by rfl) rfl (fun _ _ _ _ _ => rfl) (fun A outer s H E f c' hr => (ve_gx (ok_walled T) (hr.mono (by decide)) (fun σ => passAt takes_lam σ) rfl (va_cons (ve_q (qe_var 3)) (va_cons (ve_q (qe_var 8)) (va_cons (ve_q (qe_var 9)) (va_cons (ve_q (qe_var 5)) (va_cons (ve_q (qe_var 7)) va_nil))))) (mLenC (mLenC (mLenC (mLenC (mLenC mLenN)))))))))
      (qss_cons (qs_app (i := 10) rfl (by first | exact Or.inl rfl | exact Or.inr (Or.inl rfl) | exact Or.inr (Or.inr rfl)) (ve_lam (k := 14) (ok__law_met T) rfl (T.glo 100) (T.keep 101) (T.tb _ (List.mem_cons_of_mem _ List.mem_cons_self)) hcv (tab_mem (List.mem_cons_of_mem _ List.mem_cons_self)) (tab_hu (more_nd T) (List.mem_cons_of_mem _ List.mem_cons_self)) (hr.mono (by decide)) (LamX.lamS_by rfl) rfl (fun _ _ _ _ _ => rfl) (fun A outer s H E f c' hr => (ve_gx (ok_walled T) (hr.mono (by decide)) (fun σ => passAt takes_lam σ) rfl (va_cons (ve_q (qe_var 1)) (va_cons (ve_q (qe_var 8)) (va_cons (ve_q (qe_var 9)) (va_cons (ve_q (qe_var 5)) (va_cons (ve_q (qe_var 7)) va_nil))))) (mLenC (mLenC (mLenC (mLenC (mLenC mLenN)))))))))
      (qss_cons (qs_app (i := 10) rfl (by first | exact Or.inl rfl | exact Or.inr (Or.inl rfl) | exact Or.inr (Or.inr rfl)) (ve_lam (k := 14) (ok__law_met T) rfl (T.glo 100) (T.keep 101) (T.tb _ (List.mem_cons_of_mem _ List.mem_cons_self)) hcv (tab_mem (List.mem_cons_of_mem _ List.mem_cons_self)) (tab_hu (more_nd T) (List.mem_cons_of_mem _ List.mem_cons_self)) (hr.mono (by decide)) (LamX.lamS_by rfl) rfl (fun _ _ _ _ _ => rfl) (fun A outer s H E f c' hr => (ve_gx (ok_walled T) (hr.mono (by decide)) (fun σ => passAt takes_lam σ) rfl (va_cons (ve_q (qe_var 1)) (va_cons (ve_q qe_int) (va_cons (ve_q (qe_var 9)) (va_cons (ve_q (qe_var 5)) (va_cons (ve_q (qe_var 7)) va_nil))))) (mLenC (mLenC (mLenC (mLenC (mLenC mLenN)))))))))
      (qss_cons (qs_app (i := 10) rfl (by first | exact Or.inl rfl | exact Or.inr (Or.inl rfl) | exact Or.inr (Or.inr rfl)) (ve_lam (k := 14) (ok__law_met T) rfl (T.glo 100) (T.keep 101) (T.tb _ (List.mem_cons_of_mem _ List.mem_cons_self)) hcv (tab_mem (List.mem_cons_of_mem _ List.mem_cons_self)) (tab_hu (more_nd T) (List.mem_cons_of_mem _ List.mem_cons_self)) (hr.mono (by decide)) (LamX.lamS_by rfl) rfl (fun _ _ _ _ _ => rfl) (fun A outer s H E f c' hr => (ve_gx (ok_walled T) (hr.mono (by decide)) (fun σ => passAt takes_lam σ) rfl (va_cons (ve_q (qe_var 1)) (va_cons (ve_q qe_int) (va_cons (ve_q (qe_tup (qa_cons qe_int qa_nil))) (va_cons (ve_q (qe_var 5)) (va_cons (ve_q (qe_var 7)) va_nil))))) (mLenC (mLenC (mLenC (mLenC (mLenC mLenN)))))))))
      (qss_cons (qs_app (i := 10) rfl (by first | exact Or.inl rfl | exact Or.inr (Or.inl rfl) | exact Or.inr (Or.inr rfl)) (ve_lam (k := 6) (ok__law_met T) rfl (T.glo 100) (T.keep 101) (T.tb _ (List.mem_cons_of_mem _ List.mem_cons_self)) hcv (tab_mem (List.mem_cons_of_mem _ List.mem_cons_self)) (tab_hu (more_nd T) (List.mem_cons_of_mem _ List.mem_cons_self)) (hr.mono (by decide)) (LamX.lamS_by rfl) rfl (fun _ _ _ _ _ => rfl) (fun A outer s H E f c' hr => (ve_gx (ok_latest T) (hr.mono (by decide)) (fun σ => passAt takes_lam σ) rfl (va_cons (ve_q (qe_var 3)) (va_cons (ve_q (qe_var 5)) va_nil)) (mLenC (mLenC mLenN))))))
      (qss_cons (qs_app (i := 10) rfl (by first | exact Or.inl rfl | exact Or.inr (Or.inl rfl) | exact Or.inr (Or.inr rfl)) (ve_lam (k := 6) (ok__law_met T) rfl (T.glo 100) (T.keep 101) (T.tb _ (List.mem_cons_of_mem _ List.mem_cons_self)) hcv (tab_mem (List.mem_cons_of_mem _ List.mem_cons_self)) (tab_hu (more_nd T) (List.mem_cons_of_mem _ List.mem_cons_self)) (hr.mono (by decide)) (LamX.lamS_by rfl) rfl (fun _ _ _ _ _ => rfl) (fun A outer s H E f c' hr => (ve_gx (ok_latest T) (hr.mono (by decide)) (fun σ => passAt takes_lam σ) rfl (va_cons (ve_q (qe_var 1)) (va_cons (ve_q (qe_var 5)) va_nil)) (mLenC (mLenC mLenN))))))
      (qss_cons (qs_app (i := 10) rfl (by first | exact Or.inl rfl | exact Or.inr (Or.inl rfl) | exact Or.inr (Or.inr rfl)) (ve_lam (k := 7) (ok__law_met T) rfl (T.glo 100) (T.keep 101) (T.tb _ (List.mem_cons_of_mem _ List.mem_cons_self)) hcv (tab_mem (List.mem_cons_of_mem _ List.mem_cons_self)) (tab_hu (more_nd T) (List.mem_cons_of_mem _ List.mem_cons_self)) (hr.mono (by decide)) (LamX.lamS_by rfl) rfl (fun _ _ _ _ _ => rfl) (fun A outer s H E f c' hr => (ve_gx (ok_late_paper T) (hr.mono (by decide)) (fun σ => passAt takes_lam σ) rfl (va_cons (ve_q (qe_var 1)) (va_cons (ve_q (qe_var 5)) va_nil)) (mLenC (mLenC mLenN))))))
      (qss_cons (qs_app (i := 10) rfl (by first | exact Or.inl rfl | exact Or.inr (Or.inl rfl) | exact Or.inr (Or.inr rfl)) (ve_lam (k := 13) (ok__law_met T) rfl (T.glo 100) (T.keep 101) (T.tb _ (List.mem_cons_of_mem _ List.mem_cons_self)) hcv (tab_mem (List.mem_cons_of_mem _ List.mem_cons_self)) (tab_hu (more_nd T) (List.mem_cons_of_mem _ List.mem_cons_self)) (hr.mono (by decide)) (LamX.lamS_by rfl) rfl (fun _ _ _ _ _ => rfl) (fun A outer s H E f c' hr => (ve_gx (ok_is_late_paper T) (hr.mono (by decide)) (fun σ => passAt takes_lam σ) rfl (va_cons (ve_q (qe_var 3)) (va_cons (ve_q (qe_var 5)) (va_cons (ve_q qe_non) va_nil))) (mLenC (mLenC (mLenC mLenN)))))))
      (qss_cons (qs_app (i := 10) rfl (by first | exact Or.inl rfl | exact Or.inr (Or.inl rfl) | exact Or.inr (Or.inr rfl)) (ve_lam (k := 13) (ok__law_met T) rfl (T.glo 100) (T.keep 101) (T.tb _ (List.mem_cons_of_mem _ List.mem_cons_self)) hcv (tab_mem (List.mem_cons_of_mem _ List.mem_cons_self)) (tab_hu (more_nd T) (List.mem_cons_of_mem _ List.mem_cons_self)) (hr.mono (by decide)) (LamX.lamS_by rfl) rfl (fun _ _ _ _ _ => rfl) (fun A outer s H E f c' hr => (ve_gx (ok_is_late_paper T) (hr.mono (by decide)) (fun σ => passAt takes_lam σ) rfl (va_cons (ve_q (qe_var 1)) (va_cons (ve_q (qe_var 5)) (va_cons (ve_q qe_non) va_nil))) (mLenC (mLenC (mLenC mLenN)))))))
      (qss_cons (qs_app (i := 10) rfl (by first | exact Or.inl rfl | exact Or.inr (Or.inl rfl) | exact Or.inr (Or.inr rfl)) (ve_lam (k := 14) (ok__law_met T) rfl (T.glo 100) (T.keep 101) (T.tb _ (List.mem_cons_of_mem _ List.mem_cons_self)) hcv (tab_mem (List.mem_cons_of_mem _ List.mem_cons_self)) (tab_hu (more_nd T) (List.mem_cons_of_mem _ List.mem_cons_self)) (hr.mono (by decide)) (LamX.lamS_by rfl) rfl (fun _ _ _ _ _ => rfl) (fun A outer s H E f c' hr => (ve_gx (ok_kept T) (hr.mono (by decide)) (fun σ => passAt takes_lam σ) rfl (va_cons (ve_q (qe_var 3)) (va_cons (ve_q (qe_var 4)) (va_cons (ve_q (qe_var 9)) va_nil))) (mLenC (mLenC (mLenC mLenN)))))))
      (qss_cons (qs_app (i := 10) rfl (by first | exact Or.inl rfl | exact Or.inr (Or.inl rfl) | exact Or.inr (Or.inr rfl)) (ve_lam (k := 14) (ok__law_met T) rfl (T.glo 100) (T.keep 101) (T.tb _ (List.mem_cons_of_mem _ List.mem_cons_self)) hcv (tab_mem (List.mem_cons_of_mem _ List.mem_cons_self)) (tab_hu (more_nd T) (List.mem_cons_of_mem _ List.mem_cons_self)) (hr.mono (by decide)) (LamX.lamS_by rfl) rfl (fun _ _ _ _ _ => rfl) (fun A outer s H E f c' hr => (ve_gx (ok_kept T) (hr.mono (by decide)) (fun σ => passAt takes_lam σ) rfl (va_cons (ve_q (qe_var 1)) (va_cons (ve_q (qe_var 4)) (va_cons (ve_q (qe_var 9)) va_nil))) (mLenC (mLenC (mLenC mLenN)))))))
      (qss_cons (qs_app (i := 10) rfl (by first | exact Or.inl rfl | exact Or.inr (Or.inl rfl) | exact Or.inr (Or.inr rfl)) (ve_lam (k := 14) (ok__law_met T) rfl (T.glo 100) (T.keep 101) (T.tb _ (List.mem_cons_of_mem _ List.mem_cons_self)) hcv (tab_mem (List.mem_cons_of_mem _ List.mem_cons_self)) (tab_hu (more_nd T) (List.mem_cons_of_mem _ List.mem_cons_self)) (hr.mono (by decide)) (LamX.lamS_by rfl) rfl (fun _ _ _ _ _ => rfl) (fun A outer s H E f c' hr => (ve_gx (ok_kept T) (hr.mono (by decide)) (fun σ => passAt takes_lam σ) rfl (va_cons (ve_q (qe_var 1)) (va_cons (ve_q (qe_var 2)) (va_cons (ve_q (qe_var 9)) va_nil))) (mLenC (mLenC (mLenC mLenN)))))))
      (qss_cons (qs_set (i := 11) sc__law_right.nd rfl (by first | exact Or.inl rfl | exact Or.inr rfl | exact Or.inr (Or.inl rfl)) (ke_f (vf_catO (i := 11) rfl (by first | exact Or.inl rfl | exact Or.inr (Or.inl rfl) | exact Or.inr (Or.inr rfl)) (vf_f (fe_lst (qa_cons qe_str (qa_cons (qe_op op_addQ (be_q qe_str) (be_q (qe_callB (bq_repr hr.gd hr.u64) rfl (T.free 93) rfl (ba_cons (be_var 8) ba_nil)))) (qa_cons qe_str (qa_cons qe_str (qa_cons qe_str (qa_cons qe_str (qa_cons qe_str (qa_cons qe_str (qa_cons qe_str (qa_cons qe_str (qa_cons qe_str (qa_cons qe_str qa_nil)))))))))))))))))
      (qss_cons (qs_set (i := 13) sc__law_right.nd rfl (by first | exact Or.inl rfl | exact Or.inr rfl | exact Or.inr (Or.inl rfl)) (ke_v (ve_gi (i := 0) (ok__law_pick T) (hr.mono (by decide)) rfl rfl (by first | exact Or.inl rfl | exact Or.inr (Or.inl rfl) | exact Or.inr (Or.inr rfl)) (va_cons (ve_f (vf_f (fe_lst (qa_cons qe_non (qa_cons (qe_tup qa_nil) (qa_cons (qe_op op_mulQ (be_q (qe_tup (qa_cons qe_int qa_nil))) (be_q qe_int)) (qa_cons (qe_f (fe_lst (qa_cons qe_int qa_nil))) (qa_cons (qe_tup (qa_cons qe_bl qa_nil)) (qa_cons (qe_tup (qa_cons (qe_op op_mulS (be_q qe_str) (be_q qe_int)) qa_nil)) (qa_cons qe_str (qa_cons qe_dict0 (qa_cons (qe_tup (qa_cons (qe_tup (qa_cons qe_int (qa_cons (qe_f (fe_lst (qa_cons qe_int qa_nil))) qa_nil))) qa_nil)) qa_nil)))))))))))) va_nil) (mLenC mLenN))))
      (qss_cons (qs_app (i := 10) rfl (by first | exact Or.inl rfl | exact Or.inr (Or.inl rfl) | exact Or.inr (Or.inr rfl)) (ve_lam (k := 13) (ok__law_met T) rfl (T.glo 100) (T.keep 101) (T.tb _ (List.mem_cons_of_mem _ List.mem_cons_self)) hcv (tab_mem (List.mem_cons_of_mem _ List.mem_cons_self)) (tab_hu (more_nd T) (List.mem_cons_of_mem _ List.mem_cons_self)) (hr.mono (by decide)) (LamX.lamS_by rfl) rfl (fun _ _ _ _ _ => rfl) (fun A outer s H E f c' hr => (ve_gx (ok_most_heard T) (hr.mono (by decide)) (fun σ => passAt takes_lam σ) rfl (va_cons (ve_q (qe_var 13)) va_nil) (mLenC mLenN)))))
      (qss_cons (qs_set (i := 14) sc__law_right.nd rfl (by first | exact Or.inl rfl | exact Or.inr rfl | exact Or.inr (Or.inl rfl)) (ke_f (vf_f (fe_lst (qa_cons qe_non (qa_cons (qe_tup (qa_cons (qe_var 2) (qa_cons qe_non qa_nil))) (qa_cons (qe_tup (qa_cons (qe_var 4) (qa_cons qe_dict0 qa_nil))) (qa_cons qe_str (qa_cons (qe_tup (qa_cons (qe_var 2) (qa_cons (qe_disp rfl hr.u64 (qps_cons (qe_tup (qa_cons qe_int (qa_cons qe_int (qa_cons qe_int qa_nil)))) qe_int qps_nil)) qa_nil))) (qa_cons (qe_tup (qa_cons (qe_var 2) (qa_cons (qe_disp rfl hr.u64 (qps_cons (qe_tup (qa_cons qe_int (qa_cons qe_int (qa_cons qe_int qa_nil)))) (qe_f (fe_lst (qa_cons qe_int qa_nil))) qps_nil)) qa_nil))) (qa_cons qe_dict0 (qa_cons (qe_tup (qa_cons (qe_var 2) (qa_cons qe_dict0 (qa_cons qe_int qa_nil)))) qa_nil))))))))))))
      (qss_cons (qs_frz 14 (qs_ifV (vt_cmp op_isnotQ (ve_gx (ok_is_late_paper T) (hr.mono (by decide)) (fun σ => pass_no σ) rfl (va_cons (ve_q (qe_var 1)) (va_cons (ve_q (qe_tup (qa_cons qe_int qa_nil))) (va_cons (ve_gi (i := 0) (ok__law_pick T) (hr.mono (by decide)) rfl rfl (by first | exact Or.inl rfl | exact Or.inr (Or.inl rfl) | exact Or.inr (Or.inr rfl)) (va_cons (ve_q (qe_var 14)) va_nil) (mLenC mLenN)) va_nil))) (mLenC (mLenC (mLenC mLenN)))) (ve_q qe_bl) (nomark _)) (qss_one (qs_ret qe_bl)) qss_nil))
      (qss_one (qs_frz 10 (qs_retV (ve_cmp (op_eqQ hr.toRoom) (ve_q (qe_var 10)) (ve_f (vf_lc [("_law_word", 15)] rfl sc__law_right.nd (vi_seq (ve_f (vf_catO (i := 11) rfl (by first | exact Or.inl rfl | exact Or.inr (Or.inl rfl) | exact Or.inr (Or.inr rfl)) (vf_f (fe_lst (qa_cons qe_str qa_nil)))))) (blkOk_by rfl) (fun s H Ca cl fp => (qg_name (vs := [15]) (i := 15) sc__law_right.nd rfl (by first | exact Or.inl rfl | exact Or.inr rfl | exact Or.inr (Or.inl rfl)))) (fun s H Ca cl fp => qts_nil) (fun s H Ca cl fp => (ve_q (qe_tup (qa_cons qe_str (qa_cons (qe_var 15) qa_nil))))))) (nomark _))))))))))))))))))))))))))))))))
def p1_law : Rho → SRes :=
    (sC (sSet 2 (kF (liftF (vN F__law_dice (aC (qV 0) (aC (qV 1) aN))))))
    (sIfV (mOn (mNo (mV (vIO 2 F__law_right mN))) (mNo (mV (vIO 2 F__law_right mN)))) (sRet (qC (.bl false))) sN))
def m_law : Rho → SRes :=
    (sC (sFor (liftF (iC rangeD (aC (qCB maxD (aC (qC (.int 1)) (aC (qCB minD (aC (qC (.int 4)) (aC (qCB lenD (aC (qB 0) aN)) aN))) aN))) aN))) (gV 1) p1_law)
    (sC (sSet 3 (kD (lift (fun ρ => ((aC (qC (.int 7)) (aC (qC (.int 5)) (aC (qC (.int 1)) (aC (qC (.str "lie")) aN)))) ρ).bind fun ds => (F_Hall___init__ ds).map (D.obj 0)))))
    (sC (sSet 4 (kF (mC (mLam ok__law_met_c hv__law_met (vF F_walled (mC (lift (qV 3)) (mC (lift (qC (.int 1))) (mC (lift (qC (.int 0))) (mC (lift (fun ρ => tupO ((aC (qC (.int 1)) aN) ρ))) (mC (lift (fun ρ => ((dpC (fun ρ => tupO ((aC (qC (.int 5)) (aC (qC (.int 1)) (aC (qC (.int 2)) aN))) ρ)) (qC (.int 0)) dpN) ρ).bind dispD)) mN))))))) mN)))
    (sC (sApp 4 (mLam ok__law_met_c hv__law_met (vF F_walled (mC (lift (qV 3)) (mC (lift (qC (.int 1))) (mC (lift (qC (.int 0))) (mC (lift (fun ρ => tupO ((aC (qC (.int 1)) aN) ρ))) (mC (lift (fun ρ => ((dpC (fun ρ => tupO ((aC (qC (.int 6)) (aC (qC (.int 1)) (aC (qC (.int 2)) aN))) ρ)) (qC (.int 0)) dpN) ρ).bind dispD)) mN))))))))
    (sC (sApp 4 (mLam ok__law_met_c hv__law_met (vF F_phases (mC (lift (qV 3)) (mC (lift (q2 mulD (fun ρ => tupO ((aC (qC (.int 0)) aN) ρ)) (qC (.int 5)))) (mC (lift (fun ρ => tupO ((aC (qC (.int 1)) aN) ρ))) (mC (lift (fun ρ => ((dpC (fun ρ => tupO ((aC (qC (.int 4)) (aC (qC (.int 1)) (aC (qC (.int 2)) aN))) ρ)) (fun ρ => tupO ((aC (qC (.int 6)) (aC (fun ρ => tupO ((aC (qC .non) (aC (qU negD (qC (.int 3))) aN)) ρ)) aN)) ρ)) dpN) ρ).bind dispD)) mN)))))))
    (sC (sApp 4 (mLam ok__law_met_c hv__law_met (vF F_phases (mC (lift (qV 3)) (mC (lift (fun ρ => tupO ((aC (fun ρ => tupO ((aC (fun ρ => tupO ((aC (fun ρ => tupO ((aC (qC (.int 1)) aN) ρ)) aN) ρ)) aN) ρ)) (aC (qC (.int 12)) (aC (qC (.int 0)) (aC (qC .non) (aC (fun ρ => tupO (aN ρ)) aN))))) ρ))) (mC (lift (fun ρ => tupO (aN ρ))) (mC (lift (qC (.dic [] []))) mN)))))))
    (sC (sApp 4 (mLam ok__law_met_c hv__law_met (vF F_most_heard (mC (lift (fun ρ => ((aC (q2 powD (qC (.int 10)) (qC (.int 59))) aN) ρ).map D.tupx)) mN))))
    (sRet (q2 eqD (qB 4) (fun ρ => lstO ((aC (fun ρ => tupO ((aC (qC (.str "fine")) aN) ρ)) (aC (fun ρ => tupO ((aC (qC (.str "refused")) (aC (qC (.str "lies")) aN)) ρ)) (aC (fun ρ => tupO ((aC (qC (.str "fine")) aN) ρ)) (aC (fun ρ => tupO ((aC (qC (.str "fine")) aN) ρ)) (aC (fun ρ => tupO ((aC (qC (.str "fine")) aN) ρ)) aN))))) ρ)))))))))))
def F_law : List D → FRes := fun ds => fz (runF 5 m_law ds)
theorem okfn_law (T : TXX K mg base) {fd : FuncData} (F : FunD K "law" "law" (defArgs S_law) (defBody S_law) (defScope S_law) [] [] (He.ga K "law") fd) : FnOkG PW w K mg base C8.CX0 19 (He.ga K "law") fd ["_law_script"] (spP K (CC w K) 1 F_law) := by
  refine fn_ok (k := 18) (N := ["_law_script", "_law_spot", "_law_dice_here", "_law_hall", "_law_told"]) (ps := ["_law_script"]) F sc_law (by decide) (fun cdv Ar outer s H E hcv hr => ?_)
  exact ((qss_cons (qs_for PassesOwn.never rfl (vi_q (qi_range1 rfl (T.free 9) (qa_cons (qe_callB (bq_max rfl) rfl (T.free 48) rfl (ba_cons (be_q qe_int) (ba_cons (be_q (qe_callB (bq_min rfl) rfl (T.free 8) rfl (ba_cons (be_q qe_int) (ba_cons (be_q (qe_callB bq_len rfl (T.free 21) rfl (ba_cons (be_var 0) ba_nil))) ba_nil)))) ba_nil))) qa_nil))) (qg_name (vs := [1]) (i := 1) sc_law.nd rfl (by first | exact Or.inl rfl | exact Or.inr rfl | exact Or.inr (Or.inl rfl))) (qss_cons (qs_set (i := 2) sc_law.nd rfl (by first | exact Or.inl rfl | exact Or.inr rfl | exact Or.inr (Or.inl rfl)) (ke_f (vf_f (vf_gn (ok__law_dice T) (hr.mono (by decide)) rfl (qa_cons (qe_var 0) (qa_cons (qe_var 1) qa_nil))))))
      (qss_one (qs_ifV (vt_w (vw_or (vt_not (vt_val (ve_gi (i := 2) (ok__law_right T) (hr.mono (by decide)) rfl rfl (by first | exact Or.inl rfl | exact Or.inr (Or.inl rfl) | exact Or.inr (Or.inr rfl)) va_nil mLenN))) (vw_or1 (vt_not (vt_val (ve_gi (i := 2) (ok__law_right T) (hr.mono (by decide)) rfl rfl (by first | exact Or.inl rfl | exact Or.inr (Or.inl rfl) | exact Or.inr (Or.inr rfl)) va_nil mLenN)))))) (qss_one (qs_ret qe_bl)) qss_nil))))
      (qss_cons (qs_set (i := 3) sc_law.nd rfl (by first | exact Or.inl rfl | exact Or.inr rfl | exact Or.inr (Or.inl rfl)) (ke_v (ve_q (qe_make (c := 0) rfl (ok_Hall___init__ T) (hr.mono (by decide)) rfl (qa_cons qe_int (qa_cons qe_int (qa_cons qe_int (qa_cons qe_str qa_nil))))))))
      (qss_cons (qs_set (i := 4) sc_law.nd rfl (by first | exact Or.inl rfl | exact Or.inr rfl | exact Or.inr (Or.inl rfl)) (ke_f (vf_lst (va_cons (ve_lam (k := 14) (ok__law_met T) rfl (T.glo 100) (T.keep 101) (T.tb _ (List.mem_cons_of_mem _ (List.mem_cons_of_mem _ List.mem_cons_self))) hcv (tab_mem (List.mem_cons_of_mem _ (List.mem_cons_of_mem _ List.mem_cons_self))) (tab_hu (more_nd T) (List.mem_cons_of_mem _ (List.mem_cons_of_mem _ List.mem_cons_self))) (hr.mono (by decide)) (LamX.lamS_by rfl) rfl (fun _ _ _ _ _ => rfl) (fun A outer s H E f c' hr => (ve_gx (ok_walled T) (hr.mono (by decide)) (fun σ => passAt takes_lam σ) rfl (va_cons (ve_q (qe_var 3)) (va_cons (ve_q qe_int) (va_cons (ve_q qe_int) (va_cons (ve_q (qe_tup (qa_cons qe_int qa_nil))) (va_cons (ve_q (qe_disp rfl hr.u64 (qps_cons (qe_tup (qa_cons qe_int (qa_cons qe_int (qa_cons qe_int qa_nil)))) qe_int qps_nil))) va_nil))))) (mLenC (mLenC (mLenC (mLenC (mLenC mLenN)))))))) va_nil) (mLe' (mLenC mLenN)))))
      (qss_cons (qs_app (i := 4) rfl (by first | exact Or.inl rfl | exact Or.inr (Or.inl rfl) | exact Or.inr (Or.inr rfl)) (ve_lam (k := 14) (ok__law_met T) rfl (T.glo 100) (T.keep 101) (T.tb _ (List.mem_cons_of_mem _ (List.mem_cons_of_mem _ List.mem_cons_self))) hcv (tab_mem (List.mem_cons_of_mem _ (List.mem_cons_of_mem _ List.mem_cons_self))) (tab_hu (more_nd T) (List.mem_cons_of_mem _ (List.mem_cons_of_mem _ List.mem_cons_self))) (hr.mono (by decide)) (LamX.lamS_by rfl) rfl (fun _ _ _ _ _ => rfl) (fun A outer s H E f c' hr => (ve_gx (ok_walled T) (hr.mono (by decide)) (fun σ => passAt takes_lam σ) rfl (va_cons (ve_q (qe_var 3)) (va_cons (ve_q qe_int) (va_cons (ve_q qe_int) (va_cons (ve_q (qe_tup (qa_cons qe_int qa_nil))) (va_cons (ve_q (qe_disp rfl hr.u64 (qps_cons (qe_tup (qa_cons qe_int (qa_cons qe_int (qa_cons qe_int qa_nil)))) qe_int qps_nil))) va_nil))))) (mLenC (mLenC (mLenC (mLenC (mLenC mLenN)))))))))
      (qss_cons (qs_app (i := 4) rfl (by first | exact Or.inl rfl | exact Or.inr (Or.inl rfl) | exact Or.inr (Or.inr rfl)) (ve_lam (k := 15) (ok__law_met T) rfl (T.glo 100) (T.keep 101) (T.tb _ (List.mem_cons_of_mem _ (List.mem_cons_of_mem _ List.mem_cons_self))) hcv (tab_mem (List.mem_cons_of_mem _ (List.mem_cons_of_mem _ List.mem_cons_self))) (tab_hu (more_nd T) (List.mem_cons_of_mem _ (List.mem_cons_of_mem _ List.mem_cons_self))) (hr.mono (by decide)) (LamX.lamS_by rfl) rfl (fun _ _ _ _ _ => rfl) (fun A outer s H E f c' hr => (ve_gx (ok_phases T) (hr.mono (by decide)) (fun σ => passAt takes_lam σ) rfl (va_cons (ve_q (qe_var 3)) (va_cons (ve_q (qe_op op_mulQ (be_q (qe_tup (qa_cons qe_int qa_nil))) (be_q qe_int))) (va_cons (ve_q (qe_tup (qa_cons qe_int qa_nil))) (va_cons (ve_q (qe_disp rfl hr.u64 (qps_cons (qe_tup (qa_cons qe_int (qa_cons qe_int (qa_cons qe_int qa_nil)))) (qe_tup (qa_cons qe_int (qa_cons (qe_tup (qa_cons qe_non (qa_cons (qe_neg qe_int) qa_nil))) qa_nil))) qps_nil))) va_nil)))) (mLenC (mLenC (mLenC (mLenC mLenN))))))))
      (qss_cons (qs_app (i := 4) rfl (by first | exact Or.inl rfl | exact Or.inr (Or.inl rfl) | exact Or.inr (Or.inr rfl)) (ve_lam (k := 15) (ok__law_met T) rfl (T.glo 100) (T.keep 101) (T.tb _ (List.mem_cons_of_mem _ (List.mem_cons_of_mem _ List.mem_cons_self))) hcv (tab_mem (List.mem_cons_of_mem _ (List.mem_cons_of_mem _ List.mem_cons_self))) (tab_hu (more_nd T) (List.mem_cons_of_mem _ (List.mem_cons_of_mem _ List.mem_cons_self))) (hr.mono (by decide)) (LamX.lamS_by rfl) rfl (fun _ _ _ _ _ => rfl) (fun A outer s H E f c' hr => (ve_gx (ok_phases T) (hr.mono (by decide)) (fun σ => passAt takes_lam σ) rfl (va_cons (ve_q (qe_var 3)) (va_cons (ve_q (qe_tup (qa_cons (qe_tup (qa_cons (qe_tup (qa_cons (qe_tup (qa_cons qe_int qa_nil)) qa_nil)) qa_nil)) (qa_cons qe_int (qa_cons qe_int (qa_cons qe_non (qa_cons (qe_tup qa_nil) qa_nil))))))) (va_cons (ve_q (qe_tup qa_nil)) (va_cons (ve_q qe_dict0) va_nil)))) (mLenC (mLenC (mLenC (mLenC mLenN))))))))
      (qss_cons (qs_app (i := 4) rfl (by first | exact Or.inl rfl | exact Or.inr (Or.inl rfl) | exact Or.inr (Or.inr rfl)) (ve_lam (k := 13) (ok__law_met T) rfl (T.glo 100) (T.keep 101) (T.tb _ (List.mem_cons_of_mem _ (List.mem_cons_of_mem _ List.mem_cons_self))) hcv (tab_mem (List.mem_cons_of_mem _ (List.mem_cons_of_mem _ List.mem_cons_self))) (tab_hu (more_nd T) (List.mem_cons_of_mem _ (List.mem_cons_of_mem _ List.mem_cons_self))) (hr.mono (by decide)) (LamX.lamS_by rfl) rfl (fun _ _ _ _ _ => rfl) (fun A outer s H E f c' hr => (ve_gx (ok_most_heard T) (hr.mono (by decide)) (fun σ => passAt takes_lam σ) rfl (va_cons (ve_q (qe_tupX (qa_cons (qe_op op_powQ (be_q qe_int) (be_q qe_int)) qa_nil))) va_nil) (mLenC mLenN)))))
      (qss_one (qs_ret (qe_cmp (op_eqQ hr.toRoom) (be_var 4) (be_q (qe_f (fe_lst (qa_cons (qe_tup (qa_cons qe_str qa_nil)) (qa_cons (qe_tup (qa_cons qe_str (qa_cons qe_str qa_nil))) (qa_cons (qe_tup (qa_cons qe_str qa_nil)) (qa_cons (qe_tup (qa_cons qe_str qa_nil)) (qa_cons (qe_tup (qa_cons qe_str qa_nil)) qa_nil)))))))) (nomark _))))))))))))
theorem binds_law {fd : FuncData} (F : FunD K "law" "law" (defArgs S_law) (defBody S_law) (defScope S_law) [] [] (He.ga K "law") fd) (s : Shared) (v : Value) : BindsTo s fd ⟨[v], []⟩ [("_law_script", v)] :=
  FunD.bindsA (ps := ["_law_script"]) F (fun _ _ _ _ _ _ us hl => match us, hl with | [_], _ => rfl) s [v] rfl
def lawLv : Nat := 19
end
end LK81
end
section
set_option Elab.async false
set_option linter.all false
set_option maxRecDepth 100000
set_option maxHeartbeats 0
namespace LK81
open PySem PySem.Spec PyProof.Rows
abbrev R : PySem.W.OpenRow := PySem.W.OpenLaw.row PySem.Challenge.rw_evencoins_k81_errors_of_kings
abbrev hk : PySem.W.Hook := VL.hookG 6 fa fn [] tf exB sups gds
def ob (s : PySem.W.SharedT) : VL.AlG := VL.obsG 6 fa fn [] tf exB sups gds (HandSHeadRun.getT s)
theorem ob_eq (s : PySem.W.SharedT) : ob s = hk.obs s.abs := VL.obsG_eq _ _ _ _ _ _ _ _ (HandSHeadRun.getT_eq s)
def nm0 : List PySem.Str := [PySem.Str.ofString "EvenError", PySem.Str.ofString "InvalidWord", PySem.Str.ofString "InvalidHall", PySem.Str.ofString "InvalidLot", PySem.Str.ofString "InvalidLies", PySem.Str.ofString "InvalidNumber", PySem.Str.ofString "UnknownName", PySem.Str.ofString "LEAST_FIELD", PySem.Str.ofString "MAX_FIELD", PySem.Str.ofString "MOST_PART", PySem.Str.ofString "is_integer", PySem.Str.ofString "is_within", PySem.Str.ofString "is_field", PySem.Str.ofString "LEAST_HOUSES", PySem.Str.ofString "MOST_HOUSES_halls", PySem.Str.ofString "LOOK", PySem.Str.ofString "LIE_halls", PySem.Str.ofString "KINDS", PySem.Str.ofString "is_whole", PySem.Str.ofString "is_from", PySem.Str.ofString "is_from_halls", PySem.Str.ofString "Hall", PySem.Str.ofString "parts_of_hall", PySem.Str.ofString "is_lot_within", PySem.Str.ofString "MOST_LONG", PySem.Str.ofString "MOST_DEEP", PySem.Str.ofString "GREATEST", PySem.Str.ofString "is_plain_within", PySem.Str.ofString "is_plain", PySem.Str.ofString "LIE_kings", PySem.Str.ofString "MOST_HOUSES_kings", PySem.Str.ofString "TRIPLE", PySem.Str.ofString "PAIR"]
def nm1 : List PySem.Str := [PySem.Str.ofString "is_from_kings", PySem.Str.ofString "are_plain", PySem.Str.ofString "is_line", PySem.Str.ofString "are_lies", PySem.Str.ofString "require_hall", PySem.Str.ofString "require_values", PySem.Str.ofString "require_lot", PySem.Str.ofString "require_lies", PySem.Str.ofString "most_told", PySem.Str.ofString "kept_in", PySem.Str.ofString "heard_by", PySem.Str.ofString "phase_in", PySem.Str.ofString "phases_in", PySem.Str.ofString "free_houses", PySem.Str.ofString "are_one", PySem.Str.ofString "agreed_in", PySem.Str.ofString "settling_in", PySem.Str.ofString "later_lies", PySem.Str.ofString "most_heard", PySem.Str.ofString "kept", PySem.Str.ofString "require_talk", PySem.Str.ofString "phases", PySem.Str.ofString "agreed", PySem.Str.ofString "walled", PySem.Str.ofString "settling", PySem.Str.ofString "latest", PySem.Str.ofString "late_paper", PySem.Str.ofString "is_late_paper", PySem.Str.ofString "_law_dice", PySem.Str.ofString "_law_roll", PySem.Str.ofString "_law_pick", PySem.Str.ofString "_law_met", PySem.Str.ofString "_law_right"]
def names : List PySem.Str := nm0 ++ nm1
theorem run (w : World) : HandSHeadRun.RunEq R (PySem.W.view R.prog [73]) hk ob 6000 names w := by
  intro os
  kernel_rfl
end LK81
end
section
set_option Elab.async false
set_option linter.all false
set_option maxRecDepth 100000
set_option maxHeartbeats 0
namespace LK81
open PySem PySem.Spec L2
open PyProof.Rows hiding St
open VL LamX
abbrev ROW := PySem.Challenge.rw_evencoins_k81_errors_of_kings
def Law : Prop := ∀ ns : List Int, ns.length ≤ 63 → (∀ z ∈ ns, Builtin.Int.intBits z ≤ 1048576) → F_law [.lst (ns.map D.int)] = .ok (.bl true)
theorem law_at (L : Law) (w : World) (mg : Str → Option Value) (fa0 : Addr) (h : Heap) (Y : hk.says w h) (G : h.Ns mainGlobals mg) (hfa : mg ("law" : Str) = some (.ref fa0)) :
    ∃ K : PySem.W.Frag, K.In h ∧ LawAtG ROW w K C8.CX0 lawLv 63 "_law_script" mg fa0 h := by
  obtain ⟨K, KX, S, O, Gd⟩ := Y
  have sd : He.SaysD fa fn K := S.t.d
  have eG : mg ("law" : Str) = some (.ref (He.ga K "law")) := PySem.W.mg_of KX G (He.eqO_ok (sd.fact lawIx (f := .glo "law") rfl))
  rw [hfa] at eG
  cases eG
  obtain ⟨fd, F⟩ : ∃ fd, FunD K "law" "law" (defArgs S_law) (defBody S_law) (defScope S_law) [] [] (He.ga K "law") fd := sd.defs (d := d_law) (by simp [fn])
  refine ⟨K, KX, fd, tf.map (He.cT K), spP K (CC w K) 1 F_law, fun p hp => ?_, fun p hp => ?_, fun p hp => ?_, fun s u => binds_law F s u, fun H a ns hl hb hT hS => ?_, fun base kb nb tb => ?_⟩
  · obtain ⟨q, hq, rfl⟩ := List.mem_map.mp hp
    exact S.empty q hq
  · obtain ⟨q, hq, rfl⟩ := List.mem_map.mp hp
    exact S.out q hq
  · obtain ⟨q, hq, rfl⟩ := List.mem_map.mp hp
    exact PySem.W.codeHd_of_K KX (S.hd q hq)
  · refine ⟨None', [.lst (ns.map D.int)], (fun _ z => z.elim), fun p hp => ?_, .cons (.lst ?_ (RepL.ints ns)) .nil, rfl, ?_⟩
    · obtain ⟨q, hq, rfl⟩ := List.mem_map.mp hp
      exact TabS.nil (hT (He.cT K q) (List.mem_map_of_mem hq))
    · exact hS.elim (fun z => .inl ⟨z, id⟩) .inr
    · rw [L ns hl hb]
      intro v H' g r
      cases r
      rfl
  · exact okfn_law ⟨⟨sd, kb, nb, S.more, fun p hp => tb _ (List.mem_map_of_mem hp)⟩, O, Gd⟩ F
end LK81
open PySem PySem.W PySem.Calls PyProof.Rows
theorem LK81.holds_of (L : LK81.Law) : PySem.Challenge.rw_evencoins_k81_errors_of_kings.Holds := by
  w_on; o_law
  refine HandSHeadRun.head_any (r := OpenLaw.row PySem.Challenge.rw_evencoins_k81_errors_of_kings) (q := view (OpenLaw.row PySem.Challenge.rw_evencoins_k81_errors_of_kings).prog [73]) (H := LK81.hk) (ob := LK81.ob) (M := 6000) (loose := LK81.names) (d := HandSHeadRun.topDef (OpenLaw.row PySem.Challenge.rw_evencoins_k81_errors_of_kings).prog 73) (kwd := []) LK81.ob_eq
    (by kernel_rfl) (fun s => by kernel_rfl) LK81.run (by kernel_rfl) (by kernel_rfl) (by kernel_rfl) (by rfl) (by first | assumption | decide +kernel) (by decide +kernel) ⟨rfl, rfl, rfl, rfl, rfl, by decide +kernel⟩ ?hw ?hc
  case hw => w_witness2
  case hc =>
    refine VL.walk_ofG (l := PySem.Challenge.rw_evencoins_k81_errors_of_kings) (n := 63) (k := LK81.lawLv) (x := "_law_script") (CX := fun _ => C8.CX0) rfl (by decide) (by kernel_rfl) ⟨rfl, by decide, by decide⟩ ?F (fun _ _ _ _ _ z => z)
    intro w mg fa0 h Y G hmg0
    have hmg : mg ("law" : PySem.Str) = some (.ref fa0) := by
      have e : (HandSHeadRun.topDef (OpenLaw.row PySem.Challenge.rw_evencoins_k81_errors_of_kings).prog 73).name = ("law" : PySem.Str) := by kernel_rfl
      rw [← e]
      exact hmg0
    exact LK81.law_at L w mg fa0 h Y G hmg
end
section
set_option Elab.async false
set_option linter.all false
set_option maxRecDepth 100000
set_option maxHeartbeats 2000000
/-! P0: plain Lean about the value layer's functions: equality of data, evaluation, loops. -/
namespace VL
open PySem PySem.Spec L2
open PyProof.Rows hiding St
/-! ### evaluation by simp -/
@[simp] theorem qC_s (d : D) (ρ : Rho) : qC d ρ = (some d) := id rfl
@[simp] theorem qV_s (i : Nat) (ρ : Rho) : qV i ρ = (match ρ[i]? with
  | some (.v d) => some d
  | _ => none) := id rfl
@[simp] theorem qB_s (i : Nat) (ρ : Rho) : qB i ρ = (match ρ[i]? with
  | some (.v d) => some d
  | some (.o ds) => some (.lst ds)
  | _ => none) := id rfl
@[simp] theorem q2_s (sem : O2) (fa fb : Rho → Option D) (ρ : Rho) : q2 sem fa fb ρ = ((fa ρ).bind fun x => (fb ρ).bind fun y => sem x y) := id rfl
@[simp] theorem qChain_s (s1 s2 : O2) (fa fb fc : Rho → Option D) (ρ : Rho) : qChain s1 s2 fa fb fc ρ = ((fa ρ).bind fun x => (fb ρ).bind fun y => (s1 x y).bind fun k => (blO k).bind fun t => if t then (fc ρ).bind fun z => s2 y z else some (.bl false)) := id rfl
@[simp] theorem qAnd_s (fa fb : Rho → Option D) (ρ : Rho) : qAnd fa fb ρ = ((fa ρ).bind fun x => (blO x).bind fun t => if t then fb ρ else some (.bl false)) := id rfl
@[simp] theorem qOr_s (fa fb : Rho → Option D) (ρ : Rho) : qOr fa fb ρ = ((fa ρ).bind fun x => (blO x).bind fun t => if t then some (.bl true) else fb ρ) := id rfl
@[simp] theorem qNot_s (fa : Rho → Option D) (ρ : Rho) : qNot fa ρ = ((fa ρ).bind fun x => (blO x).map fun t => .bl (!t)) := id rfl
@[simp] theorem qU_s (g : D → Option D) (fa : Rho → Option D) (ρ : Rho) : qU g fa ρ = ((fa ρ).bind g) := id rfl
@[simp] theorem qIf_s (s : Rho → Option Bool) (fa fb : Rho → Option D) (ρ : Rho) : qIf s fa fb ρ = ((s ρ).bind fun k => if k then fa ρ else fb ρ) := id rfl
@[simp] theorem qCB_s (sem : List D → Option D) (fs : Rho → Option (List D)) (ρ : Rho) : qCB sem fs ρ = ((fs ρ).bind sem) := id rfl
@[simp] theorem qCF_s (sem : List D → Option (List D)) (fs : Rho → Option (List D)) (ρ : Rho) : qCF sem fs ρ = ((fs ρ).bind sem) := id rfl
@[simp] theorem qF_s (F : List D → FRes) (fs : Rho → Option (List D)) (ρ : Rho) : qF F fs ρ = ((fs ρ).bind fun ds => okF (F ds)) := id rfl
@[simp] theorem qLc_s (vs : List Nat) (fi : Rho → Option (List D)) (g : D → Rho → Option Rho) (t : Rho → Option Bool) (f : Rho → Option D) (ρ : Rho) : qLc vs fi g t f ρ = (
  if cleanR ρ vs then (fi ρ).bind fun xs => if decide (xs.length ≤ 16777216) then compQ g t f (wipeR ρ vs) xs else none else none) := id rfl
@[simp] theorem qLc2_s (vs vs1 : List Nat) (fi : Rho → Option (List D)) (g : D → Rho → Option Rho) (t : Rho → Option Bool) (fi1 : Rho → Option (List D)) (g1 : D → Rho → Option Rho) (t1 : Rho → Option Bool) (f : Rho → Option D) (ρ : Rho) : qLc2 vs vs1 fi g t fi1 g1 t1 f ρ = (
  if cleanR ρ vs then (fi ρ).bind fun xs => if decide (xs.length ≤ 4000) then comp2Q vs1 g t fi1 g1 t1 f (wipeR ρ vs) xs else none else none) := id rfl
@[simp] theorem qSl_s (fa : Rho → Option D) (pl ph : Rho → Option (Option Int)) (ρ : Rho) : qSl fa pl ph ρ = ((fa ρ).bind fun x => (pl ρ).bind fun l => (ph ρ).bind fun h => slD x l h) := id rfl
@[simp] theorem qSlT_s (fa : Rho → Option D) (pl ph : Rho → Option (Option Int)) (ρ : Rho) : qSlT fa pl ph ρ = ((fa ρ).bind fun x => (tupI x).bind fun xs => (pl ρ).bind fun l => (ph ρ).bind fun h => some (.tup (cutD xs l h))) := id rfl
@[simp] theorem qSlL_s (fa : Rho → Option D) (pl ph : Rho → Option (Option Int)) (ρ : Rho) : qSlL fa pl ph ρ = ((fa ρ).bind fun x => (lstI x).bind fun xs => (pl ρ).bind fun l => (ph ρ).bind fun h => some (cutD xs l h)) := id rfl
@[simp] theorem tV_s (fa : Rho → Option D) (ρ : Rho) : tV fa ρ = ((fa ρ).bind blO) := id rfl
@[simp] theorem tAn_s (s t : Rho → Option Bool) (ρ : Rho) : tAn s t ρ = ((s ρ).bind fun b => if b then t ρ else some false) := id rfl
@[simp] theorem tOn_s (s t : Rho → Option Bool) (ρ : Rho) : tOn s t ρ = ((s ρ).bind fun b => if b then some true else t ρ) := id rfl
@[simp] theorem tNo_s (s : Rho → Option Bool) (ρ : Rho) : tNo s ρ = ((s ρ).map fun b => !b) := id rfl
@[simp] theorem tT_s (ρ : Rho) : tT ρ = (some true) := id rfl
@[simp] theorem aN_s (ρ : Rho) : aN ρ = (some []) := id rfl
@[simp] theorem aC_s (f : Rho → Option D) (fs : Rho → Option (List D)) (ρ : Rho) : aC f fs ρ = ((f ρ).bind fun d => (fs ρ).bind fun ds => some (d :: ds)) := id rfl
@[simp] theorem aS_s (f : Rho → Option D) (fs : Rho → Option (List D)) (ρ : Rho) : aS f fs ρ = ((f ρ).bind fun d => (seqO d).bind fun xs => (fs ρ).bind fun ds => some (xs ++ ds)) := id rfl
@[simp] theorem iQ_s (f : Rho → Option D) (ρ : Rho) : iQ f ρ = ((f ρ).bind itemsD) := id rfl
@[simp] theorem iC_s (sem : List D → Option (List D)) (fs : Rho → Option (List D)) (ρ : Rho) : iC sem fs ρ = ((fs ρ).bind sem) := id rfl
@[simp] theorem sN_s (ρ : Rho) : sN ρ = (.nx ρ) := id rfl
@[simp] theorem sC_s (f g : Rho → SRes) (ρ : Rho) : sC f g ρ = (match f ρ with
  | .nx ρ' => g ρ'
  | r => r) := id rfl
@[simp] theorem sBk_s (ρ : Rho) : sBk ρ = (.bk ρ) := id rfl
@[simp] theorem sCt_s (ρ : Rho) : sCt ρ = (.ct ρ) := id rfl
@[simp] theorem sIf_s (t : Rho → Option Bool) (f g : Rho → SRes) (ρ : Rho) : sIf t f g ρ = (match t ρ with
  | some true => f ρ
  | some false => g ρ
  | none => .bad) := id rfl
@[simp] theorem sRet_s (f : Rho → Option D) (ρ : Rho) : sRet f ρ = (match f ρ with
  | some d => .rt d ρ
  | none => .bad) := id rfl
@[simp] theorem sRetN_s (ρ : Rho) : sRetN ρ = (.rt .non ρ) := id rfl
@[simp] theorem frz_s (i : Nat) (ρ : Rho) : frz i ρ = (match ρ[i]? with
  | some (.o ds) => if i = 0 then ρ else ρ.set i (.v (.lst ds))
  | some (.w _) => if i = 0 then ρ else ρ.set i .no
  | _ => ρ) := id rfl
@[simp] theorem q3_s (g : D → D → D → Option D) (fa fb fc : Rho → Option D) (ρ : Rho) : q3 g fa fb fc ρ = ((fa ρ).bind fun x => (fb ρ).bind fun y => (fc ρ).bind fun z => g x y z) := id rfl
@[simp] theorem iD_s (g : D → Option (List D)) (f : Rho → Option D) (ρ : Rho) : iD g f ρ = ((f ρ).bind g) := id rfl
@[simp] theorem dpN_s (ρ : Rho) : dpN ρ = some [] := id rfl
@[simp] theorem dpC_s (fk fv : Rho → Option D) (fs : Rho → Option (List (D × D))) (ρ : Rho) : dpC fk fv fs ρ = ((fk ρ).bind fun k => (fv ρ).bind fun v => (fs ρ).map fun ps => (k, v) :: ps) := id rfl
@[simp] theorem vLock_s (i : Nat) (ρ : Rho) : vLock i ρ = (match ρ[i]? with
  | some (.w es) => if i = 0 then .bad else .ok (dicW es) (ρ.set i (.v (dicW es)))
  | _ => .bad) := id rfl
@[simp] theorem sNewW_s (i : Nat) (ρ : Rho) : sNewW i ρ = (if settable ρ i = true then .nx (ρ.set i (.w [])) else .bad) := id rfl
@[simp] theorem sPutW_s (i : Nat) (fs : Rho → Option (List D)) (m : Rho → Res D) (ρ : Rho) : sPutW i fs m ρ = (match m ρ with
  | .ok d ρ1 => (match ρ1[i]?, (fs ρ1).bind keysK with
    | some (.w es), some ks => if es.length < 5000 then .nx (ρ1.set i (.w (putE es ks d))) else .bad
    | _, _ => .bad)
  | .ex c p ρ1 => .ex c p ρ1
  | .bad => .bad) := id rfl
@[simp] theorem sFz_s (i : Nat) (f : Rho → SRes) (ρ : Rho) : sFz i f ρ = (f (frz i ρ)) := id rfl
@[simp] theorem settable_s (ρ : Rho) (i : Nat) : settable ρ i = (decide (i < ρ.length) && (decide (i ≠ 0) || notOwn ρ[i]?)) := id rfl
@[simp] theorem lift_s (f : Rho → Option D) (ρ : Rho) : lift f ρ = (match f ρ with
  | some d => .ok d ρ
  | none => .bad) := id rfl
@[simp] theorem liftF_s (f : Rho → Option (List D)) (ρ : Rho) : liftF f ρ = (match f ρ with
  | some d => .ok d ρ
  | none => .bad) := id rfl
@[simp] theorem sSet_s (i : Nat) (mk : Rho → Res Kv) (ρ : Rho) : sSet i mk ρ = (match mk ρ with
  | .ok k ρ' => if settable ρ' i then .nx (ρ'.set i k.sl) else .bad
  | .ex c p ρ' => .ex c p ρ'
  | .bad => .bad) := id rfl
@[simp] theorem kD_s (m : Rho → Res D) (ρ : Rho) : kD m ρ = (bindR (m ρ) fun d ρ => .ok (.dd d) ρ) := id rfl
@[simp] theorem kF_s (m : Rho → Res (List D)) (ρ : Rho) : kF m ρ = (bindR (m ρ) fun d ρ => .ok (.ff d) ρ) := id rfl
@[simp] theorem sEx_s (m : Rho → Res D) (ρ : Rho) : sEx m ρ = (match m ρ with
  | .ok _ ρ' => .nx ρ'
  | .ex c p ρ' => .ex c p ρ'
  | .bad => .bad) := id rfl
@[simp] theorem sRetV_s (m : Rho → Res D) (ρ : Rho) : sRetV m ρ = (match m ρ with
  | .ok d ρ' => .rt d ρ'
  | .ex c p ρ' => .ex c p ρ'
  | .bad => .bad) := id rfl
@[simp] theorem sAsg_s (g : D → Rho → Option Rho) (m : Rho → Res D) (ρ : Rho) : sAsg g m ρ = (match m ρ with
  | .ok d ρ' => (match g d ρ' with
    | some ρ2 => .nx ρ2
    | none => .bad)
  | .ex c p ρ' => .ex c p ρ'
  | .bad => .bad) := id rfl
@[simp] theorem sPar_s (i j : Nat) (mk mk2 : Rho → Res Kv) (ρ : Rho) : sPar i j mk mk2 ρ = (match mk ρ with
  | .ok k ρ1 => (match mk2 ρ1 with
    | .ok k2 ρ2 => if settable ρ2 i && settable ρ2 j then .nx ((ρ2.set j k2.sl).set i k.sl) else .bad
    | .ex c p ρ' => .ex c p ρ'
    | .bad => .bad)
  | .ex c p ρ' => .ex c p ρ'
  | .bad => .bad) := id rfl
@[simp] theorem sPar3_s (i j l : Nat) (ms : Rho → Res (List D)) (ρ : Rho) : sPar3 i j l ms ρ = (match ms ρ with
  | .ok [d1, d2, d3] ρ' => if settable ρ' i && settable ρ' j && settable ρ' l then .nx (((ρ'.set i (.v d1)).set j (.v d2)).set l (.v d3)) else .bad
  | .ok _ _ => .bad
  | .ex c p ρ' => .ex c p ρ'
  | .bad => .bad) := id rfl
@[simp] theorem bindR_s {β γ : Type} (r : Res β) (k : β → Rho → Res γ) : bindR r k = (match r with
  | .ok d ρ => k d ρ
  | .ex c p ρ => .ex c p ρ
  | .bad => .bad) := id rfl
@[simp] theorem optR_s {β : Type} (o : Option β) (ρ : Rho) : optR o ρ = (match o with
  | some d => .ok d ρ
  | none => .bad) := id rfl
@[simp] theorem v2_s (sem : O2) (ma mb : Rho → Res D) (ρ : Rho) : v2 sem ma mb ρ = (bindR (ma ρ) fun x ρ1 => bindR (mb ρ1) fun y ρ2 => optR (sem x y) ρ2) := id rfl
@[simp] theorem vU_s (g : D → Option D) (ma : Rho → Res D) (ρ : Rho) : vU g ma ρ = (bindR (ma ρ) fun x ρ1 => optR (g x) ρ1) := id rfl
@[simp] theorem vCB_s (sem : List D → Option D) (ms : Rho → Res (List D)) (ρ : Rho) : vCB sem ms ρ = (bindR (ms ρ) fun ds ρ1 => optR (sem ds) ρ1) := id rfl
@[simp] theorem vCF_s (sem : List D → Option (List D)) (ms : Rho → Res (List D)) (ρ : Rho) : vCF sem ms ρ = (bindR (ms ρ) fun ds ρ1 => optR (sem ds) ρ1) := id rfl
@[simp] theorem vTup_s (ms : Rho → Res (List D)) (ρ : Rho) : vTup ms ρ = (bindR (ms ρ) fun ds ρ1 => .ok (.tup ds) ρ1) := id rfl
@[simp] theorem mPN_s (ρ : Rho) : mPN ρ = (.ok none ρ) := id rfl
@[simp] theorem mPS_s (m : Rho → Res D) (ρ : Rho) : mPS m ρ = (bindR (m ρ) fun d ρ1 => optR ((intO d).map some) ρ1) := id rfl
@[simp] theorem vSlL_s (m : Rho → Res D) (pl ph : Rho → Res (Option Int)) (ρ : Rho) : vSlL m pl ph ρ = (bindR (m ρ) fun d ρ1 => bindR (pl ρ1) fun l ρ2 => bindR (ph ρ2) fun h ρ3 => optR ((lstI d).map fun xs => cutD xs l h) ρ3) := id rfl
@[simp] theorem vSl_s (m : Rho → Res D) (pl ph : Rho → Res (Option Int)) (ρ : Rho) : vSl m pl ph ρ = (bindR (m ρ) fun d ρ1 => bindR (pl ρ1) fun l ρ2 => bindR (ph ρ2) fun h ρ3 => optR (slD d l h) ρ3) := id rfl
@[simp] theorem liftT_s (f : Rho → Option Bool) (ρ : Rho) : liftT f ρ = (optR (f ρ) ρ) := id rfl
@[simp] theorem mV_s (m : Rho → Res D) (ρ : Rho) : mV m ρ = (bindR (m ρ) fun d ρ1 => optR (blO d) ρ1) := id rfl
@[simp] theorem mAn_s (s t : Rho → Res Bool) (ρ : Rho) : mAn s t ρ = (bindR (s ρ) fun b ρ1 => if b then t ρ1 else .ok false ρ1) := id rfl
@[simp] theorem mOn_s (s t : Rho → Res Bool) (ρ : Rho) : mOn s t ρ = (bindR (s ρ) fun b ρ1 => if b then .ok true ρ1 else t ρ1) := id rfl
@[simp] theorem mNo_s (s : Rho → Res Bool) (ρ : Rho) : mNo s ρ = (bindR (s ρ) fun b ρ1 => .ok (!b) ρ1) := id rfl
@[simp] theorem vIf_s (s : Rho → Res Bool) (ma mb : Rho → Res D) (ρ : Rho) : vIf s ma mb ρ = (bindR (s ρ) fun k ρ1 => if k then ma ρ1 else mb ρ1) := id rfl
@[simp] theorem vAnd_s (ma mb : Rho → Res D) (ρ : Rho) : vAnd ma mb ρ = (bindR (mV ma ρ) fun k ρ1 => if k then mb ρ1 else .ok (.bl false) ρ1) := id rfl
@[simp] theorem vOr_s (ma mb : Rho → Res D) (ρ : Rho) : vOr ma mb ρ = (bindR (mV ma ρ) fun k ρ1 => if k then .ok (.bl true) ρ1 else mb ρ1) := id rfl
@[simp] theorem sIfV_s (s : Rho → Res Bool) (f g : Rho → SRes) (ρ : Rho) : sIfV s f g ρ = (match s ρ with
  | .ok b ρ1 => if b then f ρ1 else g ρ1
  | .ex c p ρ' => .ex c p ρ'
  | .bad => .bad) := id rfl
@[simp] theorem mI_s (m : Rho → Res D) (ρ : Rho) : mI m ρ = (bindR (m ρ) fun d ρ1 => optR (itemsD d) ρ1) := id rfl
@[simp] theorem sFor_s (mi : Rho → Res (List D)) (g : D → Rho → Option Rho) (b : Rho → SRes) (ρ : Rho) : sFor mi g b ρ = (match mi ρ with
  | .ok xs ρ1 => forS g b xs ρ1
  | .ex c p ρ' => .ex c p ρ'
  | .bad => .bad) := id rfl
@[simp] theorem mN_s (ρ : Rho) : mN ρ = (.ok [] ρ) := id rfl
@[simp] theorem mC_s (m : Rho → Res D) (ms : Rho → Res (List D)) (ρ : Rho) : mC m ms ρ = (bindR (m ρ) fun d ρ1 => bindR (ms ρ1) fun ds ρ2 => .ok (d :: ds) ρ2) := id rfl
@[simp] theorem ownAt_s (ρ : Rho) (i : Nat) : ownAt ρ i = (match ρ[i]? with
  | some (.o ds) => some ds
  | _ => none) := id rfl
@[simp] theorem sApp_s (i : Nat) (m : Rho → Res D) (ρ : Rho) : sApp i m ρ = (match ownAt ρ i with
  | some _ => (match m ρ with
    | .ok d ρ1 => (match ownAt ρ1 i with
      | some ds => if decide (ds.length < 16777216) then .nx (ρ1.set i (.o (ds ++ [d]))) else .bad
      | none => .bad)
    | .ex c p ρ' => .ex c p ρ'
    | .bad => .bad)
  | none => .bad) := id rfl
@[simp] theorem sExt_s (i : Nat) (ms : Rho → Res (List D)) (ρ : Rho) : sExt i ms ρ = (match ownAt ρ i with
  | some _ => (match ms ρ with
    | .ok xs ρ1 => (match ownAt ρ1 i with
      | some ds => if decide (ds.length + xs.length ≤ 16777216) then .nx (ρ1.set i (.o (ds ++ xs))) else .bad
      | none => .bad)
    | .ex c p ρ' => .ex c p ρ'
    | .bad => .bad)
  | none => .bad) := id rfl
@[simp] theorem vPop_s (i : Nat) (ρ : Rho) : vPop i ρ = (match ownAt ρ i with
  | some ds => (match ds[ds.length - 1]? with
    | some d => .ok d (ρ.set i (.o ds.dropLast))
    | none => .bad)
  | none => .bad) := id rfl
@[simp] theorem vPopAt_s (i : Nat) (m : Rho → Res D) (ρ : Rho) : vPopAt i m ρ = (match ownAt ρ i with
  | some _ => bindR (m ρ) fun d ρ1 => match intO d, ownAt ρ1 i with
    | some k, some ds => if small62 k then (match seqIndex? k ds.length with
      | some j => (match ds[j]? with
        | some y => .ok y (ρ1.set i (.o (ds.eraseIdx j)))
        | none => .bad)
      | none => .bad) else .bad
    | _, _ => .bad
  | none => .bad) := id rfl
@[simp] theorem vF_s (F : List D → FRes) (ms : Rho → Res (List D)) (ρ : Rho) : vF F ms ρ = (bindR (ms ρ) fun ds ρ1 => match F ds with
  | .ok d => .ok d ρ1
  | .ex c p => .ex c p ρ1
  | .bad => .bad) := id rfl
@[simp] theorem vIO_s (i : Nat) (F : FIO) (ms : Rho → Res (List D)) (ρ : Rho) : vIO i F ms ρ = (match ownAt ρ i with
  | some _ => bindR (ms ρ) fun ds ρ1 => match ownAt ρ1 i with
    | some xs => (match F xs ds with
      | some (d, xs') => .ok d (ρ1.set i (.o xs'))
      | none => .bad)
    | none => .bad
  | none => .bad) := id rfl
@[simp] theorem start0_s (n : Nat) (ds : List D) : start0 n ds = (ds.map Sl.v ++ List.replicate (n - ds.length) .no) := id rfl
@[simp] theorem runF_s (n : Nat) (body : Rho → SRes) (ds : List D) : runF n body ds = (finF (body (start0 n ds))) := id rfl
@[simp] theorem startI_s (n : Nat) (xs ds : List D) : startI n xs ds = (.o xs :: (ds.map Sl.v ++ List.replicate (n - 1 - ds.length) .no)) := id rfl
@[simp] theorem runI_s (n : Nat) (body : Rho → SRes) (xs : List D) (ds : List D) : runI n body xs ds = (ioF (body (startI n xs ds))) := id rfl
@[simp] theorem nC_s (f : Rho → SRes) (g : Rho → NRes) (ρ : Rho) : nC f g ρ = (match f ρ with
  | .nx ρ' => g ρ'
  | _ => .bad) := id rfl
@[simp] theorem nRet_s (ms : Rho → Res (List D)) (ρ : Rho) : nRet ms ρ = (match ms ρ with
  | .ok ds ρ' => .ok ds ρ'
  | _ => .bad) := id rfl
@[simp] theorem runN_s (n : Nat) (m : Rho → NRes) (ds : List D) : runN n m ds = (match m (start0 n ds) with
  | .ok xs _ => some xs
  | .bad => none) := id rfl
@[simp] theorem vN_s (F : List D → Option (List D)) (fs : Rho → Option (List D)) (ρ : Rho) : vN F fs ρ = ((fs ρ).bind F) := id rfl
@[simp] theorem mRange1_s (m : Rho → Res D) (ρ : Rho) : mRange1 m ρ = (bindR (m ρ) fun d ρ1 => match rangeD [d] with
  | some xs => .ok xs ρ1
  | none => .bad) := id rfl
@[simp] theorem mRange2_s (ma mb : Rho → Res D) (ρ : Rho) : mRange2 ma mb ρ = (bindR (ma ρ) fun d ρ1 => bindR (mb ρ1) fun e ρ2 => match rangeD [d, e] with
  | some xs => .ok xs ρ2
  | none => .bad) := id rfl
@[simp] theorem pN_s (ρ : Rho) : pN ρ = (some none) := id rfl
@[simp] theorem pS_s (f : Rho → Option D) (ρ : Rho) : pS f ρ = ((f ρ).bind fun d => (intO d).map some) := id rfl
@[simp] theorem sIx_s (i : Nat) (m mk : Rho → Res D) (ρ : Rho) : sIx i m mk ρ = (match m ρ with
  | .ok d ρ1 => (match ownAt ρ1 i with
    | some _ => (match mk ρ1 with
      | .ok k ρ2 => (match intO k with
        | some k => (match ownAt ρ2 i with
          | some ds => (match ixN ds.length k with
            | some j => .nx (ρ2.set i (.o (ds.set j d)))
            | none => .bad)
          | none => .bad)
        | none => .bad)
      | .ex c p ρ' => .ex c p ρ'
      | .bad => .bad)
    | none => .bad)
  | .ex c p ρ' => .ex c p ρ'
  | .bad => .bad) := id rfl
@[simp] theorem rg1_s (fa : Rho → Option D) (ρ : Rho) : rg1 fa ρ = ((fa ρ).bind fun x => (intO x).map fun j => (0, j)) := id rfl
@[simp] theorem rg2_s (fa fb : Rho → Option D) (ρ : Rho) : rg2 fa fb ρ = ((fa ρ).bind fun x => (intO x).bind fun i => (fb ρ).bind fun y => (intO y).map fun j => (i, j)) := id rfl
@[simp] theorem qLRg_s (f : Rho → Option (Int × Int)) (ρ : Rho) : qLRg f ρ = ((f ρ).bind fun p => if rgOk p.1 p.2 then some (rngL p.1 (p.2 - p.1).toNat) else none) := id rfl
@[simp] theorem lstO_s (o : Option (List D)) : lstO o = (o.map D.lst) := id rfl
@[simp] theorem tupO_s (o : Option (List D)) : tupO o = (o.map D.tup) := id rfl
@[simp] theorem tupS_s (o : Option (List D)) : tupS o = (o.bind fun ds => if decide (ds.length ≤ 16777216) then some (.tup ds) else none) := id rfl
@[simp] theorem lstS_s (fs : Rho → Option (List D)) (ρ : Rho) : lstS fs ρ = ((fs ρ).bind fun ds => if decide (ds.length ≤ 16777216) then some ds else none) := id rfl
@[simp] theorem gV_s (i : Nat) (d : D) (ρ : Rho) : gV i d ρ = (if notOwn ρ[i]? then some (ρ.set i (.v d)) else none) := id rfl
@[simp] theorem cleanR_s (ρ : Rho) (vs : List Nat) : cleanR ρ vs = (vs.all fun i => notOwn ρ[i]?) := id rfl
@[simp] theorem mLam_s (okc : Option D) (hv : Nat → D → Option D) (m : Rho → Res D) (ρ : Rho) : mLam okc hv m ρ = (match m ρ with
  | .ok d ρ' => .ok (okc.getD d) ρ'
  | .ex c p ρ' => (match hv c p with
    | some d => .ok d ρ'
    | none => .bad)
  | .bad => .bad) := id rfl
@[simp] theorem sRaise_s (c : Nat) (m : Rho → Res D) (ρ : Rho) : sRaise c m ρ = (match m ρ with
  | .ok d ρ' => .ex c d ρ'
  | .ex c p ρ' => .ex c p ρ'
  | .bad => .bad) := id rfl
@[simp] theorem sRaiseT_s (c : Nat) (ρ : Rho) : sRaiseT c ρ = (.ex c .non ρ) := id rfl
@[simp] theorem vLc_s (vs : List Nat) (mi : Rho → Res (List D)) (g : D → Rho → Option Rho) (t : Rho → Option Bool) (m : Rho → Res D) (ρ : Rho) : vLc vs mi g t m ρ = (
  bindR (mi ρ) fun xs ρ1 => if cleanR ρ1 vs && decide (xs.length ≤ 16777216) then compV vs g t m xs [] (wipeR ρ1 vs) else .bad) := id rfl
@[simp] theorem vCat_s (ma mb : Rho → Res (List D)) (ρ : Rho) : vCat ma mb ρ = (bindR (ma ρ) fun xs ρ1 => bindR (mb ρ1) fun ys ρ2 => if decide (xs.length + ys.length ≤ 16777216) then .ok (xs ++ ys) ρ2 else .bad) := id rfl
@[simp] theorem vCatO_s (i : Nat) (mb : Rho → Res (List D)) (ρ : Rho) : vCatO i mb ρ = (match ownAt ρ i with
  | some _ => bindR (mb ρ) fun ys ρ2 => (match ownAt ρ2 i with
    | some xs => if decide (xs.length + ys.length ≤ 16777216) then .ok (xs ++ ys) ρ2 else .bad
    | none => .bad)
  | none => .bad) := id rfl
@[simp] theorem vRep_s (ma : Rho → Res (List D)) (m : Rho → Res D) (ρ : Rho) : vRep ma m ρ = (bindR (ma ρ) fun xs ρ1 => bindR (m ρ1) fun d ρ2 => match intO d with
  | some k => if decide (0 ≤ k) && decide (k ≤ 1048576) && decide (xs.length * k.toNat ≤ 16777216) then .ok (List.replicate k.toNat xs).flatten ρ2 else .bad
  | none => .bad) := id rfl
@[simp] theorem lstR_ok (ds : List D) (ρ : Rho) : lstR (.ok ds ρ) = .ok (.lst ds) ρ := id rfl
@[simp] theorem lstR_ex (c : Nat) (p : D) (ρ : Rho) : lstR (.ex c p ρ) = .ex c p ρ := id rfl
@[simp] theorem Kv_sl_d (d : D) : Kv.sl (.dd d) = .v d := id rfl
@[simp] theorem Kv_sl_f (d : List D) : Kv.sl (.ff d) = .o d := id rfl
@[simp] theorem fz_ok (d : D) : fz (.ok d) = .ok d := id rfl
@[simp] theorem finF_nx (ρ : Rho) : finF (.nx ρ) = .ok .non := id rfl
@[simp] theorem finF_rt (d : D) (ρ : Rho) : finF (.rt d ρ) = .ok d := id rfl
@[simp] theorem finF_ex (c : Nat) (p : D) (ρ : Rho) : finF (.ex c p ρ) = .ex c p := id rfl
@[simp] theorem ioF_nx (ρ : Rho) : ioF (.nx ρ) = (ownAt ρ 0).map fun xs => (.non, xs) := id rfl
@[simp] theorem ioF_rt (d : D) (ρ : Rho) : ioF (.rt d ρ) = (ownAt ρ 0).map fun xs => (d, xs) := id rfl
@[simp] theorem okF_ok (d : D) : okF (.ok d) = some d := id rfl
@[simp] theorem seqO_l (xs : List D) : seqO (.lst xs) = some xs := id rfl
@[simp] theorem seqO_t (xs : List D) : seqO (.tup xs) = some xs := id rfl
@[simp] theorem itemsD_l (xs : List D) : itemsD (.lst xs) = some xs := id rfl
@[simp] theorem itemsD_t (xs : List D) : itemsD (.tup xs) = some xs := id rfl
@[simp] theorem intO_i (i : Int) : intO (.int i) = some i := id rfl
@[simp] theorem blO_b (b : Bool) : blO (.bl b) = some b := id rfl
@[simp] theorem lstI_l (xs : List D) : lstI (.lst xs) = some xs := id rfl
@[simp] theorem tupI_t (xs : List D) : tupI (.tup xs) = some xs := id rfl
@[simp] theorem notOwn_v (d : D) : notOwn (some (.v d)) = true := id rfl
@[simp] theorem notOwn_n : notOwn (some .no) = true := id rfl
@[simp] theorem notOwn_o (xs : List D) : notOwn (some (.o xs)) = false := id rfl
@[simp] theorem gN_0 (ρ : Rho) : gN [] ρ = some ρ := id rfl
@[simp] theorem gC_c (g : D → Rho → Option Rho) (gs : List D → Rho → Option Rho) (d : D) (ds : List D) (ρ : Rho) : gC g gs (d :: ds) ρ = (g d ρ).bind (gs ds) := id rfl
@[simp] theorem gT_t (gs : List D → Rho → Option Rho) (ds : List D) (ρ : Rho) : gT gs (.tup ds) ρ = gs ds ρ := id rfl
@[simp] theorem gL_l (gs : List D → Rho → Option Rho) (ds : List D) (ρ : Rho) : gL gs (.lst ds) ρ = gs ds ρ := id rfl
@[simp] theorem wipeR_0 (ρ : Rho) : wipeR ρ [] = ρ := id rfl
@[simp] theorem wipeR_c (ρ : Rho) (v : Nat) (vs : List Nat) : wipeR ρ (v :: vs) = (wipeR ρ vs).set v .no := id rfl
@[simp] theorem addD_i (i j : Int) : addD (.int i) (.int j) = some (.int (i + j)) := id rfl
@[simp] theorem addD_t (xs ys : List D) : addD (.tup xs) (.tup ys) = if decide (xs.length + ys.length ≤ 16777216) then some (.tup (xs ++ ys)) else none := id rfl
@[simp] theorem subD_i (i j : Int) : subD (.int i) (.int j) = some (.int (i - j)) := id rfl
theorem mulD_i (i j : Int) : mulD (.int i) (.int j) = if decide (i.natAbs < 18446744073709551616) || decide (j.natAbs < 18446744073709551616) || (decide (i.natAbs < 2 ^ 2000) && decide (j.natAbs < 2 ^ 2000)) then some (.int (i * j)) else none := rfl
@[simp] theorem mulD_r (i j : Int) (h1 : j.natAbs < 18446744073709551616) : mulD (.int i) (.int j) = some (.int (i * j)) := by
  rw [mulD_i, decide_eq_true h1]
  exact if_pos (by cases decide (i.natAbs < 18446744073709551616) <;> rfl)
@[simp] theorem mulD_l (i j : Int) (h1 : i.natAbs < 18446744073709551616) : mulD (.int i) (.int j) = some (.int (i * j)) := by
  rw [mulD_i, decide_eq_true h1]
  exact if_pos rfl
@[simp] theorem mulD_t (xs : List D) (k : Int) : mulD (.tup xs) (.int k) = if !xs.isEmpty && decide (2 ≤ k) && decide (k ≤ 1000) && decide (xs.length ≤ 1000) then some (.tup (List.replicate k.toNat xs).flatten) else none := id rfl
@[simp] theorem fdivD_i (i j : Int) : fdivD (.int i) (.int j) = if decide (0 < j) && decide (j.natAbs < 1073741824) then some (.int (i / j)) else none := id rfl
@[simp] theorem modD_i (i j : Int) : modD (.int i) (.int j) = if decide (0 < j) then some (.int (i % j)) else none := id rfl
@[simp] theorem ltD_i (i j : Int) : ltD (.int i) (.int j) = some (.bl (decide (i < j))) := id rfl
@[simp] theorem leD_i (i j : Int) : leD (.int i) (.int j) = some (.bl (decide (i ≤ j))) := id rfl
@[simp] theorem gtD_i (i j : Int) : gtD (.int i) (.int j) = some (.bl (decide (j < i))) := id rfl
@[simp] theorem geD_i (i j : Int) : geD (.int i) (.int j) = some (.bl (decide (j ≤ i))) := id rfl
@[simp] theorem negD_i (i : Int) : negD (.int i) = some (.int (-i)) := id rfl
@[simp] theorem lenD_l (xs : List D) : lenD [.lst xs] = some (.int xs.length) := id rfl
@[simp] theorem lenD_t (xs : List D) : lenD [.tup xs] = some (.int xs.length) := id rfl
@[simp] theorem absD_i (i : Int) : absD [.int i] = some (.int (if i < 0 then -i else i)) := id rfl
@[simp] theorem maxD_i (i j : Int) : maxD [.int i, .int j] = some (.int (if j > i then j else i)) := id rfl
@[simp] theorem minD_i (i j : Int) : minD [.int i, .int j] = some (.int (if j < i then j else i)) := id rfl
@[simp] theorem intD_i (i : Int) : intD [.int i] = some (.int i) := id rfl
@[simp] theorem intD_b (b : Bool) : intD [.bl b] = some (.int (if b then 1 else 0)) := id rfl
@[simp] theorem tupleD_l (xs : List D) : tupleD [.lst xs] = some (.tup xs) := id rfl
@[simp] theorem tupleD_t (xs : List D) : tupleD [.tup xs] = some (.tup xs) := id rfl
@[simp] theorem listD_l (xs : List D) : listD [.lst xs] = some xs := id rfl
@[simp] theorem listD_t (xs : List D) : listD [.tup xs] = some xs := id rfl
@[simp] theorem slD_l (xs : List D) (l h : Option Int) : slD (.lst xs) l h = some (.lst (cutD xs l h)) := id rfl
@[simp] theorem slD_t (xs : List D) (l h : Option Int) : slD (.tup xs) l h = some (.tup (cutD xs l h)) := id rfl
@[simp] theorem compQ_0 (g : D → Rho → Option Rho) (t : Rho → Option Bool) (f : Rho → Option D) (ρ : Rho) : compQ g t f ρ [] = some [] := id rfl
@[simp] theorem isiD_int_i (i : Int) : isiD "int" (.int i) = some (.bl true) := id rfl
@[simp] theorem isiD_bool_i (i : Int) : isiD "bool" (.int i) = some (.bl false) := id rfl
@[simp] theorem isiD_int_b (b : Bool) : isiD "int" (.bl b) = some (.bl true) := id rfl
@[simp] theorem isiD_bool_b (b : Bool) : isiD "bool" (.bl b) = some (.bl true) := id rfl
@[simp] theorem isiD_tuple_t (xs : List D) : isiD "tuple" (.tup xs) = some (.bl true) := id rfl
@[simp] theorem isiD_list_l (xs : List D) : isiD "list" (.lst xs) = some (.bl true) := id rfl
@[simp] theorem isnotD_n (d : D) : isnotD d .non = some (.bl (!isN d)) := id rfl
@[simp] theorem isD_n (d : D) : isD d .non = some (.bl (isN d)) := id rfl
@[simp] theorem isN_n : isN .non = true := id rfl
@[simp] theorem isN_t (xs : List D) : isN (.tup xs) = false := id rfl
@[simp] theorem isN_l (xs : List D) : isN (.lst xs) = false := id rfl
@[simp] theorem isN_i (i : Int) : isN (.int i) = false := id rfl
@[simp] theorem bool_eta (b : Bool) : (if b = true then true else false) = b := by cases b <;> rfl
/-! ### equality of data -/
mutual
/-- no truth values, no dicts, no objects; depth at most n; texts that can be laid -/
def D.tm : Nat → D → Bool
  | _, .non => true
  | _, .int _ => true
  | _, .str x => (PyData.str x).canLay0
  | n + 1, .tup xs => D.tms n xs
  | n + 1, .lst xs => D.tms n xs
  | _, _ => false
def D.tms : Nat → List D → Bool
  | _, [] => true
  | n, x :: xs => D.tm n x && D.tms n xs
end
theorem D.tms_all {n : Nat} : ∀ {xs : List D}, D.tms n xs = true ↔ ∀ x ∈ xs, D.tm n x = true
  | [] => by simp [D.tms]
  | x :: xs => by simp [D.tms, D.tms_all (xs := xs)]
mutual
theorem D.tm_mono : ∀ {n : Nat} (m : Nat) {d : D}, D.tm n d = true → n ≤ m → D.tm m d = true
  | n, m, .non, h, _ => by simp [D.tm]
  | n, m, .int i, h, _ => by simp [D.tm]
  | n, m, .str x, h, _ => by simpa [D.tm] using h
  | n + 1, m, .tup xs, h, l => by
    obtain ⟨k, rfl⟩ : ∃ k, m = k + 1 := ⟨m - 1, by omega⟩
    exact D.tms_mono k (xs := xs) (by simpa [D.tm] using h) (by omega)
  | n + 1, m, .lst xs, h, l => by
    obtain ⟨k, rfl⟩ : ∃ k, m = k + 1 := ⟨m - 1, by omega⟩
    exact D.tms_mono k (xs := xs) (by simpa [D.tm] using h) (by omega)
  | 0, _, .tup xs, h, _ => by simp [D.tm] at h
  | 0, _, .lst xs, h, _ => by simp [D.tm] at h
  | _, _, .bl _, h, _ => by simp [D.tm] at h
  | _, _, .dic _ _, h, _ => by simp [D.tm] at h
  | _, _, .obj _ _, h, _ => by simp [D.tm] at h
  | _, _, .fn _, h, _ => by simp [D.tm] at h
  | _, _, .exc _ _, h, _ => by simp [D.tm] at h
theorem D.tms_mono : ∀ {n : Nat} (m : Nat) {xs : List D}, D.tms n xs = true → n ≤ m → D.tms m xs = true
  | _, _, [], _, _ => rfl
  | n, m, x :: xs, h, l => by
    simp only [D.tms, Bool.and_eq_true] at h ⊢
    exact ⟨D.tm_mono m h.1 l, D.tms_mono m h.2 l⟩
end
mutual
theorem D.tm_lay : ∀ {n : Nat} {d : D}, D.tm n d = true → d.P.canLay0 = true ∧ d.P.depth ≤ n
  | n, .non, h => by simp [D.P, PyData.canLay0, PyData.depth]
  | n, .int i, h => by simp [D.P, PyData.canLay0, PyData.depth]
  | n, .str x, h => by
    refine ⟨by simpa [D.tm, D.P] using h, by simp [D.P, PyData.depth]⟩
  | n + 1, .tup xs, h => by
    have q := D.tms_lay (n := n) (xs := xs) (by simpa [D.tm] using h)
    have q2 := q.2
    simp only [D.P, PyData.canLay0, PyData.depth, q.1, true_and]
    omega
  | n + 1, .lst xs, h => by
    have q := D.tms_lay (n := n) (xs := xs) (by simpa [D.tm] using h)
    have q2 := q.2
    simp only [D.P, PyData.canLay0, PyData.depth, q.1, true_and]
    omega
  | 0, .tup xs, h => by simp [D.tm] at h
  | 0, .lst xs, h => by simp [D.tm] at h
  | _, .bl _, h => by simp [D.tm] at h
  | _, .dic _ _, h => by simp [D.tm] at h
  | _, .obj _ _, h => by simp [D.tm] at h
  | _, .fn _, h => by simp [D.tm] at h
  | _, .exc _ _, h => by simp [D.tm] at h
theorem D.tms_lay : ∀ {n : Nat} {xs : List D}, D.tms n xs = true → PyData.canLayAll0 (D.PL xs) = true ∧ PyData.depthAll (D.PL xs) ≤ n
  | _, [], _ => by simp [D.PL, PyData.canLayAll0, PyData.depthAll]
  | n, x :: xs, h => by
    simp only [D.tms, Bool.and_eq_true] at h
    have h1 := D.tm_lay h.1
    have h2 := D.tms_lay h.2
    simp only [D.PL, PyData.canLayAll0, PyData.depthAll, h1.1, h2.1, Bool.and_self, true_and]
    have a1 := h1.2
    have a2 := h2.2
    omega
end
mutual
theorem D.tm_eq : ∀ {n m : Nat} {d e : D}, D.tm n d = true → D.tm m e = true → (PyData.eqv d.P e.P = true ↔ d = e)
  | n + 1, m + 1, .tup xs, .tup ys, h, g => by
    have q := D.tms_eq (n := n) (m := m) (xs := xs) (ys := ys) (by simpa [D.tm] using h) (by simpa [D.tm] using g)
    simp only [D.P, PyData.eqv, q, D.tup.injEq]
  | n + 1, m + 1, .lst xs, .lst ys, h, g => by
    have q := D.tms_eq (n := n) (m := m) (xs := xs) (ys := ys) (by simpa [D.tm] using h) (by simpa [D.tm] using g)
    simp only [D.P, PyData.eqv, q, D.lst.injEq]
  | n, m, .non, e, h, g => by cases e <;> simp_all [D.P, PyData.eqv, D.tm]
  | n, m, .int i, e, h, g => by cases e <;> simp_all [D.P, PyData.eqv, D.tm]
  | n, m, .str x, e, h, g => by cases e <;> simp_all [D.P, PyData.eqv, D.tm]
  | n + 1, m, .tup xs, e, h, g => by
    cases e with
    | tup ys =>
      cases m with
      | zero => simp [D.tm] at g
      | succ m =>
        have q := D.tms_eq (n := n) (m := m) (xs := xs) (ys := ys) (by simpa [D.tm] using h) (by simpa [D.tm] using g)
        simp only [D.P, PyData.eqv, q, D.tup.injEq]
    | _ => simp_all [D.P, PyData.eqv, D.tm]
  | n + 1, m, .lst xs, e, h, g => by
    cases e with
    | lst ys =>
      cases m with
      | zero => simp [D.tm] at g
      | succ m =>
        have q := D.tms_eq (n := n) (m := m) (xs := xs) (ys := ys) (by simpa [D.tm] using h) (by simpa [D.tm] using g)
        simp only [D.P, PyData.eqv, q, D.lst.injEq]
    | _ => simp_all [D.P, PyData.eqv, D.tm]
  | 0, _, .tup xs, _, h, _ => by simp [D.tm] at h
  | 0, _, .lst xs, _, h, _ => by simp [D.tm] at h
  | _, _, .bl _, _, h, _ => by simp [D.tm] at h
  | _, _, .dic _ _, _, h, _ => by simp [D.tm] at h
  | _, _, .obj _ _, _, h, _ => by simp [D.tm] at h
  | _, _, .fn _, _, h, _ => by simp [D.tm] at h
  | _, _, .exc _ _, _, h, _ => by simp [D.tm] at h
theorem D.tms_eq : ∀ {n m : Nat} {xs ys : List D}, D.tms n xs = true → D.tms m ys = true → (PyData.eqvAll (D.PL xs) (D.PL ys) = true ↔ xs = ys)
  | _, _, [], [], _, _ => by simp [D.PL, PyData.eqvAll]
  | _, _, [], _ :: _, _, _ => by simp [D.PL, PyData.eqvAll]
  | _, _, _ :: _, [], _, _ => by simp [D.PL, PyData.eqvAll]
  | n, m, x :: xs, y :: ys, h, g => by
    simp only [D.tms, Bool.and_eq_true] at h g
    have h1 := D.tm_eq h.1 g.1
    have h2 := D.tms_eq h.2 g.2
    simp only [D.PL, PyData.eqvAll, Bool.and_eq_true, h1, h2, List.cons.injEq]
end
theorem D.eq_iff {n m : Nat} {d e : D} (h : D.tm n d = true) (g : D.tm m e = true) : d.eq e = true ↔ d = e := D.tm_eq h g
theorem cmpOk_tm {n m : Nat} {d e : D} (h : D.tm n d = true) (g : D.tm m e = true) (hn : min n m ≤ 64) : cmpOk d e = true := by
  have h1 := D.tm_lay h
  have h2 := D.tm_lay g
  have a1 := h1.2
  have a2 := h2.2
  simp only [cmpOk, h1.1, h2.1, Bool.and_self, Bool.true_and, decide_eq_true_eq]
  omega
theorem eqD_tm {n m : Nat} {d e : D} (h : D.tm n d = true) (g : D.tm m e = true) (hn : min n m ≤ 64) : eqD d e = some (.bl (d.eq e)) := if_pos (cmpOk_tm h g hn)
theorem neD_tm {n m : Nat} {d e : D} (h : D.tm n d = true) (g : D.tm m e = true) (hn : min n m ≤ 64) : neD d e = some (.bl (!d.eq e)) := if_pos (cmpOk_tm h g hn)
theorem eqD_yes {n : Nat} {d : D} (h : D.tm n d = true) (hn : n ≤ 64) : eqD d d = some (.bl true) := by rw [eqD_tm h h (by omega), (D.eq_iff h h).mpr rfl]
theorem neD_yes {n : Nat} {d : D} (h : D.tm n d = true) (hn : n ≤ 64) : neD d d = some (.bl false) := by rw [neD_tm h h (by omega), (D.eq_iff h h).mpr rfl]; rfl
/-! ### lists of numbers -/
def I (ns : List Int) : List D := ns.map D.int
theorem I_def (ns : List Int) : I ns = ns.map D.int := rfl
@[simp] theorem I_nil : I [] = [] := id rfl
@[simp] theorem I_cons (n : Int) (ns : List Int) : I (n :: ns) = .int n :: I ns := id rfl
@[simp] theorem I_len (ns : List Int) : (I ns).length = ns.length := List.length_map ..
theorem mem_I {ns : List Int} {d : D} : d ∈ I ns ↔ ∃ n ∈ ns, .int n = d := List.mem_map
@[simp] theorem I_isEmpty (ns : List Int) : (I ns).isEmpty = ns.isEmpty := by cases ns <;> rfl
abbrev tI (ns : List Int) : D := .tup (I ns)
abbrev tII (fam : List (List Int)) : D := .tup (fam.map tI)
theorem tm_I {n : Nat} (ns : List Int) : D.tms n (I ns) = true := D.tms_all.mpr fun x hx => by
  obtain ⟨i, _, rfl⟩ := List.mem_map.mp hx
  cases n <;> rfl
theorem tm_tI {n : Nat} (ns : List Int) : D.tm (n + 1) (tI ns) = true := tm_I ns
theorem tm_lI {n : Nat} (ns : List Int) : D.tm (n + 1) (.lst (I ns)) = true := tm_I ns
theorem tms_tI {n : Nat} (fam : List (List Int)) : D.tms (n + 1) (fam.map tI) = true := D.tms_all.mpr fun x hx => by
  obtain ⟨i, _, rfl⟩ := List.mem_map.mp hx
  exact tm_tI i
theorem tm_tII {n : Nat} (fam : List (List Int)) : D.tm (n + 2) (tII fam) = true := tms_tI fam
theorem I_inj {a b : List Int} : I a = I b ↔ a = b := ⟨fun h => (List.map_inj_right fun _ _ e => D.int.inj e).mp h, fun h => by rw [h]⟩
theorem intsO_I : ∀ ns : List Int, intsO (I ns) = some ns
  | [] => rfl
  | n :: ns => by
    show (intsO (I ns)).map _ = _
    rw [intsO_I ns]
    rfl
theorem blsO_bl : ∀ bs : List Bool, blsO (bs.map D.bl) = some bs
  | [] => rfl
  | n :: ns => by
    show (blsO (ns.map D.bl)).map _ = _
    rw [blsO_bl ns]
    rfl
theorem allD_bl (bs : List Bool) : allD [.lst (bs.map D.bl)] = some (.bl (bs.all id)) := by simp [allD, blsO_bl]
theorem anyD_bl (bs : List Bool) : anyD [.lst (bs.map D.bl)] = some (.bl (bs.any id)) := by simp [anyD, blsO_bl]
theorem sumD_I (ns : List Int) : sumD [.lst (I ns)] = some (.int ns.sum) := by simp [sumD, intsO_I]
theorem sumD_tI (ns : List Int) : sumD [tI ns] = some (.int ns.sum) := by simp [sumD, intsO_I]
/-- x in a list of numbers -/
theorem any_int (ns : List Int) (i : Int) : (I ns).any (fun z => z.eq (.int i)) = decide (i ∈ ns) := by
  induction ns with
  | nil => rfl
  | cons n ns ih =>
    rw [show I (n :: ns) = .int n :: I ns from rfl, List.any_cons, ih]
    have : D.eq (.int n) (.int i) = decide (n = i) := by simp only [D.eq, D.P, PyData.eqv]; rfl
    rw [this]
    by_cases h : n = i <;> by_cases g : i ∈ ns <;> simp [h, g, eq_comm]
    exact fun z => h z.symm
theorem inD_I (ns : List Int) (i : Int) : inD (.int i) (tI ns) = some (.bl (decide (i ∈ ns))) := by
  have c : cmpOk (.int i) (tI ns) = true := cmpOk_tm (n := 0) (m := 1) rfl (tm_tI ns) (by omega)
  rw [show inD (.int i) (tI ns) = if cmpOk (.int i) (tI ns) then some (.bl ((I ns).any fun z => z.eq (.int i))) else none from rfl, if_pos c, any_int]
theorem notinD_I (ns : List Int) (i : Int) : notinD (.int i) (tI ns) = some (.bl (!decide (i ∈ ns))) := by
  have c : cmpOk (.int i) (tI ns) = true := cmpOk_tm (n := 0) (m := 1) rfl (tm_tI ns) (by omega)
  rw [show notinD (.int i) (tI ns) = if cmpOk (.int i) (tI ns) then some (.bl (!(I ns).any fun z => z.eq (.int i))) else none from rfl, if_pos c, any_int]
/-- d in tame data -/
theorem any_tm {n m : Nat} {es : List D} {d : D} (h : D.tms n es = true) (g : D.tm m d = true) : ((es.any fun z => z.eq d) = true ↔ d ∈ es) := by
  rw [List.any_eq_true]
  constructor
  · rintro ⟨x, hx, e⟩
    rw [(D.eq_iff (D.tms_all.mp h x hx) g).mp e] at hx
    exact hx
  · intro hd
    exact ⟨d, hd, (D.eq_iff (D.tms_all.mp h d hd) g).mpr rfl⟩
/-! ### places -/
theorem seqIndex_nat {i n : Nat} (h : i < n) : seqIndex? (i : Int) n = some i := by
  unfold seqIndex?
  have h1 : ¬ ((i : Int) < 0) := by omega
  have h2 : (decide ((0 : Int) ≤ i) && decide ((i : Int) < n)) = true := by simp; omega
  simp only [h1, if_false, h2, if_true]
  rfl
theorem ixN_nat {i n : Nat} (h : i < n) : ixN n (i : Int) = some i := by
  unfold ixN
  rw [if_pos (by omega), if_pos (by omega)]
  rfl
@[simp] theorem ixN_30 : ixN 3 0 = some 0 := id rfl
@[simp] theorem ixN_31 : ixN 3 1 = some 1 := id rfl
@[simp] theorem ixN_32 : ixN 3 2 = some 2 := id rfl
theorem atI_nat {α : Type} (xs : List α) {i : Nat} (h : i < xs.length) : atI xs (i : Int) = xs[i]? := by
  unfold atI
  rw [show ixN xs.length (i : Int) = some i from ixN_nat h]
  rfl
theorem ixD_tup (xs : List D) {i : Nat} (h : i < xs.length) : ixD (.tup xs) (.int i) = xs[i]? := atI_nat xs h
theorem ixD_lst (xs : List D) {i : Nat} (h : i < xs.length) : ixD (.lst xs) (.int i) = xs[i]? := atI_nat xs h
@[simp] theorem ixD_t0 (x : D) (xs : List D) : ixD (.tup (x :: xs)) (.int 0) = some x := ixD_tup (i := 0) (x :: xs) (by simp)
@[simp] theorem ixD_t1 (x y : D) (xs : List D) : ixD (.tup (x :: y :: xs)) (.int 1) = some y := ixD_tup (i := 1) (x :: y :: xs) (by simp)
@[simp] theorem ixD_t2 (x y z : D) (xs : List D) : ixD (.tup (x :: y :: z :: xs)) (.int 2) = some z := ixD_tup (i := 2) (x :: y :: z :: xs) (by simp)
@[simp] theorem ixD_l0 (x : D) (xs : List D) : ixD (.lst (x :: xs)) (.int 0) = some x := ixD_lst (i := 0) (x :: xs) (by simp)
@[simp] theorem ixD_l1 (x y : D) (xs : List D) : ixD (.lst (x :: y :: xs)) (.int 1) = some y := ixD_lst (i := 1) (x :: y :: xs) (by simp)
@[simp] theorem ixD_l2 (x y z : D) (xs : List D) : ixD (.lst (x :: y :: z :: xs)) (.int 2) = some z := ixD_lst (i := 2) (x :: y :: z :: xs) (by simp)
/-! ### comprehensions -/
theorem compQ_map {α : Type} {g : D → Rho → Option Rho} {t : Rho → Option Bool} {f : Rho → Option D} {ρ : Rho} (c : α → D) (p : α → Bool) (h : α → D) : ∀ (L : List α), (∀ l ∈ L, ∃ ρ', g (c l) ρ = some ρ' ∧ t ρ' = some (p l) ∧ (p l = true → f ρ' = some (h l))) → compQ g t f ρ (L.map c) = some ((L.filter p).map h)
  | [], _ => rfl
  | l :: L, H => by
    obtain ⟨ρ', h1, h2, h3⟩ := H l (by simp)
    have ih := compQ_map c p h L fun x hx => H x (List.mem_cons_of_mem _ hx)
    rw [List.map_cons, compQ, h1, Option.bind_some, h2, Option.bind_some, ih]
    cases hp : p l with
    | true => simp [h3 hp, hp]
    | false => simp [hp]
theorem compQ_mapI {g : D → Rho → Option Rho} {t : Rho → Option Bool} {f : Rho → Option D} {ρ : Rho} (p : Int → Bool) (h : Int → D) (L : List Int) (H : ∀ l ∈ L, ∃ ρ', g (.int l) ρ = some ρ' ∧ t ρ' = some (p l) ∧ (p l = true → f ρ' = some (h l))) : compQ g t f ρ (I L) = some ((L.filter p).map h) := compQ_map D.int p h L H
theorem compQ_all {α : Type} {g : D → Rho → Option Rho} {f : Rho → Option D} {ρ : Rho} (c : α → D) (h : α → D) (L : List α) (H : ∀ l ∈ L, ∃ ρ', g (c l) ρ = some ρ' ∧ f ρ' = some (h l)) : compQ g tT f ρ (L.map c) = some (L.map h) := by
  rw [compQ_map (t := tT) (f := f) c (fun _ => true) h L fun l hl => by
    obtain ⟨ρ', h1, h2⟩ := H l hl
    exact ⟨ρ', h1, rfl, fun _ => h2⟩, List.filter_eq_self.mpr fun _ _ => rfl]
theorem compQ_allI {g : D → Rho → Option Rho} {f : Rho → Option D} {ρ : Rho} (h : Int → D) (L : List Int) (H : ∀ l ∈ L, ∃ ρ', g (.int l) ρ = some ρ' ∧ f ρ' = some (h l)) : compQ g tT f ρ (I L) = some (L.map h) := compQ_all D.int h L H
theorem comp2Q_map {α : Type} {vs1 : List Nat} {g g1 : D → Rho → Option Rho} {t t1 : Rho → Option Bool} {fi1 : Rho → Option (List D)} {f : Rho → Option D} {ρ : Rho} (c : α → D) (h : α → List D) : ∀ (L : List α), (∀ l ∈ L, ∃ ρ1, g (c l) ρ = some ρ1 ∧ t ρ1 = some true ∧ cleanR ρ1 vs1 = true ∧ ∃ ys, fi1 ρ1 = some ys ∧ ys.length ≤ 4096 ∧ compQ g1 t1 f (wipeR ρ1 vs1) ys = some (h l)) → comp2Q vs1 g t fi1 g1 t1 f ρ (L.map c) = some (L.flatMap h)
  | [], _ => rfl
  | l :: L, H => by
    obtain ⟨ρ1, h1, h2, h3, ys, h4, h5, h6⟩ := H l (by simp)
    have ih := comp2Q_map c h L fun x hx => H x (List.mem_cons_of_mem _ hx)
    rw [List.map_cons, comp2Q, h1, Option.bind_some, h2, Option.bind_some, if_pos rfl, if_pos h3, h4, Option.bind_some, if_pos (by simpa using h5), h6, Option.bind_some, ih]
    rfl
theorem eraseIdx_perm {α : Type} : ∀ (l : List α) (j : Nat) (h : j < l.length), (l[j] :: l.eraseIdx j).Perm l
  | x :: l, 0, _ => List.Perm.refl _
  | x :: l, j + 1, h => by
    have h' : j < l.length := by simpa using h
    exact (List.Perm.swap _ _ _).trans ((eraseIdx_perm l j h').cons x)
theorem rangeD_1 {j : Int} (h0 : -4611686018427387904 < j) (h1 : j < 4611686018427387904) : rangeD [.int j] = some (rngL 0 j.toNat) := by
  show (if small62 j then _ else _) = _
  have : j.natAbs < 4611686018427387904 := by omega
  rw [show small62 j = true from decide_eq_true this]
  rfl
theorem rangeD_2 {i j : Int} (h0 : -4611686018427387904 < i) (h1 : i < 4611686018427387904) (h2 : -4611686018427387904 < j) (h3 : j < 4611686018427387904) : rangeD [.int i, .int j] = some (rngL i (j - i).toNat) := by
  show (if small62 i && small62 j then _ else _) = _
  have e1 : i.natAbs < 4611686018427387904 := by omega
  have e2 : j.natAbs < 4611686018427387904 := by omega
  rw [show small62 i = true from decide_eq_true e1, show small62 j = true from decide_eq_true e2]
  rfl
theorem small62_nat {i : Int} (h0 : -4611686018427387904 < i) (h1 : i < 4611686018427387904) : small62 i = true := decide_eq_true (by omega)
theorem rngL_I (lo : Int) (n : Nat) : rngL lo n = I ((List.range n).map fun (i : Nat) => lo + (i : Int)) := by
  unfold rngL I
  rw [List.map_map]
  rfl
theorem compV_all {α : Type} {vs : List Nat} {g : D → Rho → Option Rho} {m : Rho → Res D} {ρ : Rho} (c : α → D) (h : α → D) : ∀ (L : List α) (acc : List D), (∀ l ∈ L, ∃ ρ1 ρ2, g (c l) ρ = some ρ1 ∧ m ρ1 = .ok (h l) ρ2 ∧ cleanR ρ2 vs = true ∧ wipeR ρ2 vs = ρ) → compV vs g tT m (L.map c) acc ρ = .ok (acc ++ L.map h) ρ
  | [], acc, _ => by simp [compV]
  | l :: L, acc, H => by
    obtain ⟨ρ1, ρ2, h1, h2, h3, h4⟩ := H l (by simp)
    rw [List.map_cons, compV, h1]
    simp only [tT_s, h2, h3, if_true, h4]
    rw [compV_all c h L _ fun x hx => H x (List.mem_cons_of_mem _ hx)]
    simp
/-- the state may change -/
theorem compV_inv {vs : List Nat} {g : D → Rho → Option Rho} {m : Rho → Res D} (J : Rho → Prop) (P : D → Prop) : ∀ (xs acc : List D) (ρ : Rho), J ρ → (∀ x ∈ xs, ∀ ρ, J ρ → ∃ ρ1 d ρ2, g x ρ = some ρ1 ∧ m ρ1 = .ok d ρ2 ∧ P d ∧ cleanR ρ2 vs = true ∧ J (wipeR ρ2 vs)) → ∃ ds ρ', compV vs g tT m xs acc ρ = .ok (acc ++ ds) ρ' ∧ ds.length = xs.length ∧ (∀ d ∈ ds, P d) ∧ J ρ'
  | [], acc, ρ, j, _ => ⟨[], ρ, by simp [compV], rfl, by simp, j⟩
  | x :: xs, acc, ρ, j, H => by
    obtain ⟨ρ1, d, ρ2, h1, h2, h3, h4, j2⟩ := H x (by simp) ρ j
    obtain ⟨ds, ρ', e, hl, hp, j'⟩ := compV_inv J P xs (acc ++ [d]) _ j2 fun x hx => H x (List.mem_cons_of_mem _ hx)
    refine ⟨d :: ds, ρ', ?_, by simp [hl], ?_, j'⟩
    · rw [compV, h1]
      simp only [tT_s, h2, h4, if_true]
      rw [e]
      simp
    · intro y hy
      rcases List.mem_cons.mp hy with rfl | hy
      · exact h3
      · exact hp y hy
/-! ### loops -/
theorem forS_inv {g : D → Rho → Option Rho} {b : Rho → SRes} (J : Rho → Prop) : ∀ (xs : List D) (ρ : Rho), J ρ → (∀ x ∈ xs, ∀ ρ, J ρ → ∃ ρ1, g x ρ = some ρ1 ∧ ∃ ρ2, b ρ1 = .nx ρ2 ∧ J ρ2) → ∃ ρ', forS g b xs ρ = .nx ρ' ∧ J ρ'
  | [], ρ, j, _ => ⟨ρ, rfl, j⟩
  | x :: xs, ρ, j, H => by
    obtain ⟨ρ1, h1, ρ2, h2, j2⟩ := H x (by simp) ρ j
    rw [forS, h1]
    simp only [h2]
    exact forS_inv J xs ρ2 j2 fun y hy => H y (List.mem_cons_of_mem _ hy)
/-- with a count of the turns done -/
theorem forS_cnt {g : D → Rho → Option Rho} {b : Rho → SRes} (J : Nat → Rho → Prop) : ∀ (xs : List D) (k : Nat) (ρ : Rho), J k ρ → (∀ i, (hi : i < xs.length) → ∀ ρ, J (k + i) ρ → ∃ ρ1, g xs[i] ρ = some ρ1 ∧ ∃ ρ2, b ρ1 = .nx ρ2 ∧ J (k + i + 1) ρ2) → ∃ ρ', forS g b xs ρ = .nx ρ' ∧ J (k + xs.length) ρ'
  | [], k, ρ, j, _ => ⟨ρ, rfl, j⟩
  | x :: xs, k, ρ, j, H => by
    obtain ⟨ρ1, h1, ρ2, h2, j2⟩ := H 0 (by simp) ρ j
    have h1 : g x ρ = some ρ1 := h1
    rw [forS, h1]
    simp only [h2]
    obtain ⟨ρ', e, j'⟩ := forS_cnt J xs (k + 1) ρ2 j2 fun i hi ρ hj => by
      have := H (i + 1) (by simp; omega) ρ (by rw [show k + (i + 1) = k + 1 + i by omega]; exact hj)
      rw [show k + (i + 1) + 1 = k + 1 + i + 1 by omega] at this
      simpa using this
    refine ⟨ρ', e, ?_⟩
    rw [List.length_cons, show k + (xs.length + 1) = k + 1 + xs.length by omega]
    exact j'
/-! ### by steps -/
theorem sC_q {f g : Rho → SRes} {ρ : Rho} {Q : SRes → Prop} (h : ∃ ρ1, f ρ = .nx ρ1 ∧ Q (g ρ1)) : Q (sC f g ρ) := by
  obtain ⟨ρ1, e, q⟩ := h
  have : sC f g ρ = g ρ1 := by simp only [sC_s, e]
  rw [this]
  exact q
theorem sC_e {f g : Rho → SRes} {ρ ρ1 : Rho} (h : f ρ = .nx ρ1) : sC f g ρ = g ρ1 := by simp only [sC_s, h]
theorem while_q {t : Rho → Res Bool} {b : Rho → SRes} (J : Nat → Rho → Prop) (step : ∀ n ρ, J n ρ → (n = 0 ∧ t ρ = .ok false ρ) ∨ (∃ m, n = m + 1 ∧ t ρ = .ok true ρ ∧ ∃ ρ', b ρ = .nx ρ' ∧ J m ρ')) : ∀ (fuel n : Nat) (ρ : Rho), n < fuel → J n ρ → ∃ ρ', sWhile fuel t b ρ = .nx ρ' ∧ J 0 ρ'
  | 0, n, _, h, _ => absurd h (by omega)
  | fuel + 1, n, ρ, h, j => by
    rcases step n ρ j with ⟨rfl, e⟩ | ⟨m, rfl, e, ρ', e2, j2⟩
    · exact ⟨ρ, by simp only [sWhile, whileS, e], j⟩
    · obtain ⟨ρ2, e3, j3⟩ := while_q J step fuel m ρ' (by omega) j2
      refine ⟨ρ2, ?_, j3⟩
      simp only [sWhile, whileS, e, e2]
      exact e3
theorem while_r {t : Rho → Res Bool} {b : Rho → SRes} (J : Nat → Rho → Prop) {fuel n : Nat} {ρ : Rho} {R : Rho → Prop} (hl : n < fuel) (j : J n ρ) (post : ∀ ρ', J 0 ρ' → R ρ') (step : ∀ n ρ, J n ρ → (n = 0 ∧ t ρ = .ok false ρ) ∨ (∃ m, n = m + 1 ∧ t ρ = .ok true ρ ∧ ∃ ρ', b ρ = .nx ρ' ∧ J m ρ')) : ∃ ρ', sWhile fuel t b ρ = .nx ρ' ∧ R ρ' := by
  obtain ⟨ρ', e, j⟩ := while_q J step fuel n ρ hl j
  exact ⟨ρ', e, post _ j⟩
theorem for_r {mi : Rho → Res (List D)} {g : D → Rho → Option Rho} {b : Rho → SRes} (J : Nat → Rho → Prop) {ρ ρ0 : Rho} {xs : List D} {R : Rho → Prop} (hi : mi ρ = .ok xs ρ0) (j : J 0 ρ0) (post : ∀ ρ', J xs.length ρ' → R ρ') (step : ∀ i, (hi : i < xs.length) → ∀ ρ, J i ρ → ∃ ρ1, g xs[i] ρ = some ρ1 ∧ ∃ ρ2, b ρ1 = .nx ρ2 ∧ J (i + 1) ρ2) : ∃ ρ', sFor mi g b ρ = .nx ρ' ∧ R ρ' := by
  obtain ⟨ρ', e, j'⟩ := forS_cnt J xs 0 ρ0 j (fun i hi ρ hj => by
    rw [Nat.zero_add] at hj ⊢
    exact step i hi ρ hj)
  rw [Nat.zero_add] at j'
  exact ⟨ρ', by simp only [sFor_s, hi]; exact e, post _ j'⟩
/-- the same at each turn -/
theorem for_c {mi : Rho → Res (List D)} {g : D → Rho → Option Rho} {b : Rho → SRes} (J : Rho → Prop) {ρ ρ0 : Rho} {xs : List D} {R : Rho → Prop} (hi : mi ρ = .ok xs ρ0) (j : J ρ0) (post : ∀ ρ', J ρ' → R ρ') (step : ∀ x ∈ xs, ∀ ρ, J ρ → ∃ ρ1, g x ρ = some ρ1 ∧ ∃ ρ2, b ρ1 = .nx ρ2 ∧ J ρ2) : ∃ ρ', sFor mi g b ρ = .nx ρ' ∧ R ρ' := by
  obtain ⟨ρ', e, j'⟩ := forS_inv J xs ρ0 j step
  exact ⟨ρ', by simp only [sFor_s, hi]; exact e, post _ j'⟩
theorem neD_nil {n : Nat} {xs : List D} (h : D.tms n xs = true) : neD (.lst xs) (.lst []) = some (.bl (!xs.isEmpty)) := by
  rw [neD_tm (n := n + 1) (m := 1) (d := .lst xs) (e := .lst []) (by simpa [D.tm] using h) rfl (by omega)]
  cases xs with
  | nil => rfl
  | cons x xs =>
    have : D.eq (.lst (x :: xs)) (.lst []) = false := by simp only [D.eq, D.P, D.PL, PyData.eqv, PyData.eqvAll]
    rw [this]
    rfl
theorem eqD_nil {n : Nat} {xs : List D} (h : D.tms n xs = true) : eqD (.lst xs) (.lst []) = some (.bl xs.isEmpty) := by
  rw [eqD_tm (n := n + 1) (m := 1) (d := .lst xs) (e := .lst []) (by simpa [D.tm] using h) rfl (by omega)]
  cases xs with
  | nil => rfl
  | cons x xs =>
    have : D.eq (.lst (x :: xs)) (.lst []) = false := by simp only [D.eq, D.P, D.PL, PyData.eqv, PyData.eqvAll]
    rw [this]
    rfl
/-! ### slices -/
theorem cutD_from (xs : List D) (k : Nat) : cutD xs (some (k : Int)) none = xs.drop k := by
  unfold cutD
  rw [HT.sIx_nat, HT.sIx_none]
  rcases Nat.le_total k xs.length with h | h
  · rw [Nat.min_eq_left h]
    exact List.take_of_length_le (by simp)
  · rw [Nat.min_eq_right h, List.drop_eq_nil_of_le h, List.drop_eq_nil_of_le (Nat.le_refl _), List.take_nil]
theorem cutD_to (xs : List D) (k : Nat) : cutD xs none (some (k : Int)) = xs.take k := by
  unfold cutD
  rw [HT.sIx_nat, HT.sIx_none, List.drop_zero, Nat.sub_zero]
  rcases Nat.le_total k xs.length with h | h
  · rw [Nat.min_eq_left h]
  · rw [Nat.min_eq_right h, List.take_of_length_le h, List.take_of_length_le (Nat.le_refl _)]
@[simp] theorem cutD_1 (xs : List D) : cutD xs (some 1) none = xs.drop 1 := cutD_from xs 1
theorem tupIntsO_tI : ∀ fam : List (List Int), tupIntsO (fam.map tI) = some fam
  | [] => rfl
  | l :: fam => by
    show ((intsO (I l)).bind fun l => (tupIntsO (fam.map tI)).map fun r => l :: r) = _
    rw [intsO_I, tupIntsO_tI fam]
    rfl
theorem dd_nodup {fam : List (List Int)} (h : fam.Nodup) : (dd fam).length = fam.length := (dd_len h (fun _ z => z) fun _ z => z).symm
theorem lenSet_tI {fam : List (List Int)} (h : fam.Nodup) (hl : fam.length < 64) : lenSetD (tII fam) = some (.int fam.length) := by
  have : (tupIntsO (fam.map tI)) = some fam := tupIntsO_tI fam
  simp [lenSetD, this, hl, dd_nodup h]
theorem zip_I (a b : List Int) : List.zipWith (fun x y => D.tup [x, y]) (I a) (I b) = (a.zip b).map fun p => D.tup [.int p.1, .int p.2] := by
  simp [I, List.zip, List.map_zipWith, List.zipWith_map]
theorem zip_tail (l : List Int) : zipD [tI l, .tup (I l).tail] = some ((l.zip l.tail).map fun p => D.tup [.int p.1, .int p.2]) := by
  have e : (I l).tail = I l.tail := by simp [I]
  rw [e, ← zip_I]
  rfl
/-- the pairs i ≤ j below n -/
def prs (n : Nat) : List (Nat × Nat) := (List.range n).flatMap fun i => (List.range (n - i)).map fun j => (i, i + j)
abbrev PR (p : Nat × Nat) : D := .tup [.int p.1, .int p.2]
theorem mem_prs {n : Nat} {p : Nat × Nat} (h : p ∈ prs n) : p.1 < n ∧ p.2 < n := by
  obtain ⟨i, hi, h⟩ := List.mem_flatMap.mp h
  obtain ⟨j, hj, rfl⟩ := List.mem_map.mp h
  rw [List.mem_range] at hi hj
  exact ⟨hi, by show i + j < n; omega⟩
theorem tm_PR (p : Nat × Nat) : D.tm 1 (PR p) = true := rfl
theorem ixD_tI {fam : List (List Int)} {i : Nat} (h : i < fam.length) : ixD (tII fam) (.int i) = some (tI (fam.getD i [])) := by
  rw [ixD_tup _ (by simpa using h)]
  simp [h, List.getD]
theorem getD_mem {α : Type} {l : List α} {i : Nat} (h : i < l.length) (d : α) : l.getD i d ∈ l := by
  rw [List.getD, List.getElem?_eq_getElem h]
  exact List.getElem_mem h
theorem rngL_len (lo : Int) (n : Nat) : (rngL lo n).length = n := by simp [rngL]
theorem I_append (a b : List Int) : I a ++ I b = I (a ++ b) := (List.map_append).symm
theorem prs_len_le {n : Nat} (h : n ≤ 12) : (prs n).length ≤ 144 := by
  unfold prs
  rw [List.length_flatMap]
  have : ((List.range n).map fun i => ((List.range (n - i)).map fun j => (i, i + j)).length) = (List.range n).map fun i => n - i := by simp
  rw [this]
  have : ∀ m, m ≤ 12 → ((List.range m).map fun i => m - i).sum ≤ 144 := by decide
  exact this n h
end VL
end
section
set_option Elab.async false
set_option linter.all false
set_option maxRecDepth 100000
set_option maxHeartbeats 2000000
namespace LK81
open PySem PySem.Spec L2 VL
/-! ### dice -/
def GD (xs : List D) : Prop := ∃ a b c : Int, xs = [.int a, .int b, .int c]
theorem pw16 : q2 powD (qC (.int 10)) (qC (.int 16)) = qC (.int 10000000000000000) := rfl
theorem pw117 : ∃ P : Int, 0 < P ∧ q2 mulD (q2 powD (qC (.int 10)) (qC (.int 57))) (q2 powD (qC (.int 10)) (qC (.int 60))) = qC (.int P) := ⟨1000000000000000000000000000000000000000000000000000000000000000000000000000000000000000000000000000000000000000000000, by decide, rfl⟩
theorem F_dice (ns : List Int) (s : Nat) : ∃ xs, F__law_dice [.lst (I ns), .int s] = some xs ∧ GD xs := by
  obtain ⟨P, hP, eP⟩ := pw117
  unfold F__law_dice m__law_dice
  rw [eP, pw16]
  by_cases h : (s : Int) < (ns.length : Int)
  · have h' : s < ns.length := by omega
    have e : ixD (.lst (I ns)) (.int s) = some (.int ns[s]) := by
      rw [ixD_lst _ (by simpa using h')]
      simp [h', I_def]
    simp -implicitDefEqProofs [h, h', e, GD, hP]
  · have h' : ¬ s < ns.length := by omega
    simp -implicitDefEqProofs [h, h', GD, hP]
theorem F_roll {xs : List D} (g : GD xs) (m : Int) (h0 : 0 < m) (h1 : m < 1073741824) : ∃ (r : Int) (xs' : List D), F__law_roll xs [.int m] = some (.int r, xs') ∧ 0 ≤ r ∧ r < m ∧ GD xs' := by
  obtain ⟨a, b, c, rfl⟩ := g
  have h1 : m.natAbs < 1073741824 := by omega
  by_cases h : 0 < a
  · simp -implicitDefEqProofs [F__law_roll, m__law_roll, h, h0, h1, GD]
    exact ⟨_, _, ⟨rfl, rfl⟩, Int.emod_nonneg _ (by omega), Int.emod_lt_of_pos _ h0, _, _, _, rfl⟩
  · have b1 : ∀ z : Int, (z % 2305843009213693487).natAbs < 18446744073709551616 := fun z => by omega
    simp -implicitDefEqProofs [F__law_roll, m__law_roll, h, h0, h1, GD, b1]
    exact ⟨_, _, ⟨rfl, rfl⟩, Int.emod_nonneg _ (by omega), Int.emod_lt_of_pos _ h0, _, _, _, rfl⟩
theorem F_pick {xs : List D} (g : GD xs) (items : List D) (h : items ≠ []) (hl : items.length < 1073741824) : ∃ (d : D) (xs' : List D), F__law_pick xs [.lst items] = some (d, xs') ∧ d ∈ items ∧ GD xs' := by
  have hp : 0 < items.length := List.length_pos_iff.mpr h
  obtain ⟨r, xs', e, r0, r1, g'⟩ := F_roll g items.length (by omega) (by omega)
  have er : ixD (.lst items) (.int r) = some (items[r.toNat]'(by omega)) := by
    have := ixD_lst items (i := r.toNat) (by omega)
    rw [Int.toNat_of_nonneg r0] at this
    rw [this, List.getElem?_eq_getElem]
  refine ⟨items[r.toNat]'(by omega), xs', ?_, List.getElem_mem _, g'⟩
  simp -implicitDefEqProofs [F__law_pick, m__law_pick, e, er]
end LK81
end
section
set_option Elab.async false
set_option linter.all false
set_option maxRecDepth 100000
set_option maxHeartbeats 4000000
namespace LK81
open PySem PySem.Spec L2 VL
abbrev hallD : D := .obj 0 [.int 7, .int 5, .str "lie", .int 1]
abbrev lookD : D := .obj 0 [.int 7, .int 5, .str "look", .int 1]
abbrev look3D : D := .obj 0 [.int 7, .int 3, .str "look", .int 1]
theorem mkH : F_Hall___init__ [.int 7, .int 5, .int 1, .str "lie"] = some [.int 7, .int 5, .str "lie", .int 1] := by kernel_rfl
theorem mkL : F_Hall___init__ [.int 7, .int 5, .int 1, .str "look"] = some [.int 7, .int 5, .str "look", .int 1] := by kernel_rfl
abbrev goodD : D := .tup [.int 0, .int 1, .tup [.int 2, .int 3], .non, .tup []]
abbrev noneL : List D := [.non, lookD, .str "lie", .tup [.int 7, .int 5, .int 1, .str "lie"], .dic [] [], .int 5, .lst [hallD], look3D]
abbrev valL : List D := [.non, .tup [], .tup [.int 0, .int 1, .int 2, .int 3], .tup [.int 0, .int 0, .int 0, .int 0, .int 0, .int 0], .lst [.int 0, .int 1, .int 2, .int 3, .int 4], .tup [.int 0, .int 1, .int 2, .int 3, .bl true], .tup [.int 0, .int 1, .int 2, .int 3, .lst [.int 4]], .tup [.int 0, .int 1, .int 2, .int 3, .str "xxxxxxxxxxxxx"], .str "01234", .dic [] []]
abbrev crewL : List D := [.non, .tup [.int 1, .int 2], .tup [.int 0], .tup [.int 6], .lst [.int 1], .tup [.bl true], .int 1, .str "1", .tup [.tup [.int 1]], .tup [.non]]
def dk (ks : List D) (v : D) : D := .dic [.tup ks] [v]
abbrev someL : List D := [.non, .lst [], dk [.int 1, .int 2, .int 3] (.int 0), dk [.int 0, .int 1, .int 2] (.int 0), dk [.int 5, .int 1, .int 2] (.int 0), dk [.int 1, .int 1, .int 1] (.int 0), dk [.int 1, .int 1, .int 0] (.int 0), dk [.int 1, .int 1, .int 6] (.int 0), dk [.int 1, .int 1] (.int 0), dk [.bl true, .int 1, .int 2] (.int 0)]
abbrev moreL : List D := [dk [.int 1, .int 1, .int 2] (.bl true), dk [.int 1, .int 1, .int 2] (.lst [.int 0]), .dic [.str "key"] [.int 0], dk [.int 1, .int 1, .int 2, .int 3] (.int 0), dk [.int 1, .str "1", .int 2] (.int 0), dk [.int 1, .int 1, .int 2] (.str "yyyyyyyyyyyyy"), .tup []]
abbrev houseL : List D := [.non, .int 0, .int 6, .bl true, .str "1", .int (-1), .int 1000000000000000000000000000000000000000000000000000000000000]
abbrev textL : List D := [.bl true, .lst [.int 1], .dic [] [], .str "text", .tup [.bl true], .tup [.lst []]]
abbrev heardL : List D := [.non, .tup [], .tup [.int 0, .int 0, .int 0, .int 0, .int 0, .int 0, .int 0, .int 0, .int 0, .int 0], .lst [.int 1], .tup [.bl true], .tup [.str "xxxxxxxxxxxxx"], .str "values", .dic [] [], .tup [.tup [.int 1, .lst [.int 2]]]]
abbrev wideL (v : D) : List D := [.non, .tup [goodD, .non], .tup [v, .dic [] []], .str "paper", .tup [goodD, dk [.int 1, .int 2, .int 3] (.int 0)], .tup [goodD, dk [.int 1, .int 1, .int 2] (.lst [.int 0])], .dic [] [], .tup [goodD, .dic [] [], .int 1]]
structure BadN (n : D) : Prop where
  ph : ∀ v c t, F_phases [n, v, c, t] = .ex 1 .non
  ag : ∀ v c t, F_agreed [n, v, c, t] = .ex 1 .non
  se : ∀ v c t, F_settling [n, v, c, t] = .ex 1 .non
  wa : ∀ h x c t, F_walled [n, h, x, c, t] = .ex 1 .non
  la : ∀ c, F_latest [n, c] = .ex 1 .non
  il : ∀ c x, F_is_late_paper [n, c, x] = .ex 1 .non
  ke : ∀ v x, F_kept [n, v, x] = .ex 1 .non
theorem none_ok {d : D} (h : d ∈ noneL) : BadN d := by
  simp only [noneL, List.mem_cons, List.not_mem_nil, or_false] at h
  rcases h with rfl | rfl | rfl | rfl | rfl | rfl | rfl | rfl
  all_goals exact ⟨fun _ _ _ => by kernel_rfl, fun _ _ _ => by kernel_rfl, fun _ _ _ => by kernel_rfl, fun _ _ _ _ => by kernel_rfl, fun _ => by kernel_rfl, fun _ _ => by kernel_rfl, fun _ _ => by kernel_rfl⟩
structure BadV (v : D) : Prop where
  ph : ∀ c t, F_phases [hallD, v, c, t] = .ex 0 .non
  ag : ∀ c t, F_agreed [hallD, v, c, t] = .ex 0 .non
  se : ∀ c t, F_settling [hallD, v, c, t] = .ex 0 .non
  ke : ∀ x, F_kept [hallD, v, x] = .ex 0 .non
theorem val_ok {d : D} (h : d ∈ valL) : BadV d := by
  simp only [valL, List.mem_cons, List.not_mem_nil, or_false] at h
  rcases h with rfl | rfl | rfl | rfl | rfl | rfl | rfl | rfl | rfl | rfl
  all_goals exact ⟨fun _ _ => by kernel_rfl, fun _ _ => by kernel_rfl, fun _ _ => by kernel_rfl, fun _ => by kernel_rfl⟩
structure BadC (c : D) : Prop where
  ph : ∀ t, F_phases [hallD, goodD, c, t] = .ex 2 .non
  ag : ∀ t, F_agreed [hallD, goodD, c, t] = .ex 2 .non
  se : ∀ t, F_settling [hallD, goodD, c, t] = .ex 2 .non
  wa : ∀ t, F_walled [hallD, .int 1, .tup [.int 4], c, t] = .ex 2 .non
  la : F_latest [hallD, c] = .ex 2 .non
  lp : F_late_paper [hallD, c] = .ex 2 .non
  il : ∀ x, F_is_late_paper [hallD, c, x] = .ex 2 .non
theorem crew_ok {d : D} (h : d ∈ crewL) : BadC d := by
  simp only [crewL, List.mem_cons, List.not_mem_nil, or_false] at h
  rcases h with rfl | rfl | rfl | rfl | rfl | rfl | rfl | rfl | rfl | rfl
  all_goals exact ⟨fun _ => by kernel_rfl, fun _ => by kernel_rfl, fun _ => by kernel_rfl, fun _ => by kernel_rfl, by kernel_rfl, by kernel_rfl, fun _ => by kernel_rfl⟩
structure BadT (t : D) : Prop where
  ph : F_phases [hallD, goodD, .tup [.int 1], t] = .ex 3 .non
  ag : F_agreed [hallD, goodD, .tup [.int 1], t] = .ex 3 .non
  se : F_settling [hallD, goodD, .tup [.int 1], t] = .ex 3 .non
theorem tales_ok {d : D} (h : d ∈ someL ++ moreL) : BadT d := by
  simp only [someL, moreL, List.cons_append, List.nil_append, List.mem_cons, List.not_mem_nil, or_false] at h
  rcases h with rfl | rfl | rfl | rfl | rfl | rfl | rfl | rfl | rfl | rfl | rfl | rfl | rfl | rfl | rfl | rfl | rfl
  all_goals exact ⟨by kernel_rfl, by kernel_rfl, by kernel_rfl⟩
def rs (d : D) : Str := match reprD [d] with
  | some (.str s) => s
  | _ => "?"
def numS (d : D) : Str := match addD (.str "number ") (.str (rs d)) with
  | some (.str s) => s
  | _ => "?"
abbrev refT (s : Str) : D := .tup [.str "refused", .str s]
structure BadH (h : D) : Prop where
  tm : D.tm 0 (.str (numS h)) = true
  rp : reprD [h] = some (.str (rs h))
  ad : addD (.str "number ") (.str (rs h)) = some (.str (numS h))
  hv : hv__law_met 4 h = some (refT (numS h))
  wa : ∀ x c t, F_walled [hallD, h, x, c, t] = .ex 4 h
theorem house_ok {d : D} (h : d ∈ houseL) : BadH d := by
  simp only [houseL, List.mem_cons, List.not_mem_nil, or_false] at h
  rcases h with rfl | rfl | rfl | rfl | rfl | rfl | rfl
  all_goals exact ⟨by kernel_rfl, by kernel_rfl, by kernel_rfl, by kernel_rfl, fun _ _ _ => by kernel_rfl⟩
structure BadX (x : D) : Prop where
  wa : ∀ c t, F_walled [hallD, .int 1, x, c, t] = .ex 0 .non
  ke : F_kept [hallD, goodD, x] = .ex 0 .non
theorem text_ok {d : D} (h : d ∈ textL) : BadX d := by
  simp only [textL, List.mem_cons, List.not_mem_nil, or_false] at h
  rcases h with rfl | rfl | rfl | rfl | rfl | rfl
  all_goals exact ⟨fun _ _ => by kernel_rfl, by kernel_rfl⟩
theorem heard_ok {d : D} (h : d ∈ heardL) : F_most_heard [d] = .ex 0 .non := by
  simp only [heardL, List.mem_cons, List.not_mem_nil, or_false] at h
  rcases h with rfl | rfl | rfl | rfl | rfl | rfl | rfl | rfl | rfl
  all_goals kernel_rfl
theorem wide_ok {v d : D} (hv : v ∈ valL) (h : d ∈ wideL v) : F_is_late_paper [hallD, .tup [.int 1], d] = .ok (.bl false) := by
  simp only [wideL, List.mem_cons, List.not_mem_nil, or_false] at h
  rcases h with rfl | rfl | rfl | rfl | rfl | rfl | rfl | rfl
  case inr.inr.inl =>
    simp only [valL, List.mem_cons, List.not_mem_nil, or_false] at hv
    rcases hv with rfl | rfl | rfl | rfl | rfl | rfl | rfl | rfl | rfl | rfl
    all_goals kernel_rfl
  all_goals kernel_rfl
theorem hv0 : hv__law_met 0 .non = some (refT "word") := by kernel_rfl
theorem hv1 : hv__law_met 1 .non = some (refT "hall") := by kernel_rfl
theorem hv2 : hv__law_met 2 .non = some (refT "lot") := by kernel_rfl
theorem hv3 : hv__law_met 3 .non = some (refT "lies") := by kernel_rfl
theorem okFine : ok__law_met_c = some (.tup [.str "fine"]) := by kernel_rfl
end LK81
end
section
set_option Elab.async false
set_option linter.all false
set_option maxRecDepth 100000
set_option maxHeartbeats 4000000
namespace LK81
open PySem PySem.Spec L2 VL
theorem vFv_fn {G : Nat → List D → FRes} {mf : Rho → Option D} {ms : Rho → Res (List D)} {ρ : Rho} {n : Nat} (h : mf ρ = some (.fn n)) : vFv G mf ms ρ = vF (G n) ms ρ := by
  unfold vFv
  rw [h]
theorem vio_pick {m : Rho → Res D} {ρ : Rho} {items xs xs' : List D} {d : D} (e : F__law_pick xs [.lst items] = some (d, xs')) (own : ownAt ρ 0 = some xs) (hm : mC m mN ρ = .ok [.lst items] ρ) : vIO 0 F__law_pick (mC m mN) ρ = .ok d (ρ.set 0 (.o xs')) := by
  unfold vIO
  rw [own, hm]
  simp only [bindR, own, e]
theorem set_pick {i : Nat} {m : Rho → Res D} {ρ : Rho} {items xs xs' : List D} {d : D} (e : F__law_pick xs [.lst items] = some (d, xs')) (own : ownAt ρ 0 = some xs) (hm : mC m mN ρ = .ok [.lst items] ρ) (hs : settable (ρ.set 0 (.o xs')) i = true) : sSet i (kD (vIO 0 F__law_pick (mC m mN))) ρ = .nx ((ρ.set 0 (.o xs')).set i (.v d)) := by
  unfold sSet kD
  rw [vio_pick e own hm]
  simp only [bindR, hs, if_true]
  rfl
theorem app_lam {i : Nat} {m : Rho → Res D} {ρ : Rho} {L : List D} {c : Nat} {p d : D} (own : ownAt ρ i = some L) (hm : m ρ = .ex c p ρ) (hv : hv__law_met c p = some d) (hl : L.length < 16777216) : sApp i (mLam ok__law_met_c hv__law_met m) ρ = .nx (ρ.set i (.o (L ++ [d]))) := by
  unfold sApp mLam
  simp only [own, hm, hv, hl, decide_true, if_true]
abbrev GoodI (r : SRes) : Prop := ∃ xs', ioF r = some (.bl true, xs') ∧ GD xs'
abbrev four : List D := [refT "hall", refT "word", refT "lot", refT "lies"]
abbrev dues : List D := [.str "hall", .str "word", .str "lot", .str "lies"]
theorem body {n : Nat} {none v c t : D} {a : Sl} {r : List Sl} {L M : List D} {s6 s8 s9 : Sl} (h1 : G_fn n [none, v, c, t] = .ex 1 .non) (h2 : G_fn n [hallD, v, c, t] = .ex 0 .non) (h3 : G_fn n [hallD, goodD, c, t] = .ex 2 .non) (h4 : G_fn n [hallD, goodD, .tup [.int 1], t] = .ex 3 .non) (hL : L.length ≤ 100) (hM : M.length ≤ 100) :
    p1__law_right (a :: .v hallD :: .v goodD :: .v none :: .v v :: .v c :: s6 :: .v t :: s8 :: s9 :: .o L :: .o M :: .v (.fn n) :: r) = .nx (a :: .v hallD :: .v goodD :: .v none :: .v v :: .v c :: s6 :: .v t :: s8 :: s9 :: .o (L ++ four) :: .o (M ++ dues) :: .v (.fn n) :: r) := by
  have a0 : L.length < 16777216 := by omega
  have a1 : L.length + 1 < 16777216 := by omega
  have a2 : L.length + 1 + 1 < 16777216 := by omega
  have a3 : L.length + 1 + 1 + 1 < 16777216 := by omega
  have a4 : M.length + 4 ≤ 16777216 := by omega
  have z0 := hv0
  have z1 := hv1
  have z2 := hv2
  have z3 := hv3
  unfold p1__law_right
  rw [sC_e (app_lam (L := L) rfl (by rw [vFv_fn rfl]; simp -implicitDefEqProofs [h1]) z1 a0)]
  rw [sC_e (app_lam (L := L ++ [refT "hall"]) rfl (by rw [vFv_fn rfl]; simp -implicitDefEqProofs [h2]) z0 (by simp; omega))]
  rw [sC_e (app_lam (L := L ++ [refT "hall"] ++ [refT "word"]) rfl (by rw [vFv_fn rfl]; simp -implicitDefEqProofs [h3]) z2 (by simp; omega))]
  rw [sC_e (app_lam (L := L ++ [refT "hall"] ++ [refT "word"] ++ [refT "lot"]) rfl (by rw [vFv_fn rfl]; simp -implicitDefEqProofs [h4]) z3 (by simp; omega))]
  simp -implicitDefEqProofs [a4]
theorem fin_eq {f : Rho → Option D} {m : Rho → Res D} {ρ ρ' : Rho} {d e : D} (hf : f (frz 10 ρ) = some d) (hm : m (frz 10 ρ) = .ok e ρ') (he : eqD d e = some (.bl true)) : sFz 10 (sRetV (v2 eqD (lift f) m)) ρ = .rt (.bl true) ρ' := by
  unfold sFz sRetV v2 lift
  simp only [hf, hm, bindR, he, optR]
theorem mC_2 {ma mb : Rho → Res D} {ρ ρ1 ρ2 : Rho} {x y : D} (h1 : ma ρ = .ok x ρ1) (h2 : mb ρ1 = .ok y ρ2) : mC ma (mC mb mN) ρ = .ok [x, y] ρ2 := by
  unfold mC
  simp only [bindR, h1, h2, mN]
theorem law_right {xs : List D} (g : GD xs) : ∃ xs', F__law_right xs [] = some (.bl true, xs') ∧ GD xs' := by
  unfold F__law_right m__law_right
  simp only [runI_s]
  refine sC_q (Q := GoodI) ⟨[.o xs, .v hallD, .v goodD, .no, .no, .no, .no, .no, .no, .no, .no, .no, .no, .no, .no, .no], by kernel_rfl, ?_⟩
  obtain ⟨n, xs1, e1, hn, g1⟩ := F_pick g noneL (by simp) (by simp)
  have bn := none_ok hn
  refine sC_q (Q := GoodI) ⟨[.o xs1, .v hallD, .v goodD, .v n, .no, .no, .no, .no, .no, .no, .no, .no, .no, .no, .no, .no], set_pick e1 rfl (by kernel_rfl) rfl, ?_⟩
  obtain ⟨v, xs2, e2, hv, g2⟩ := F_pick g1 valL (by simp) (by simp)
  have bv := val_ok hv
  refine sC_q (Q := GoodI) ⟨[.o xs2, .v hallD, .v goodD, .v n, .v v, .no, .no, .no, .no, .no, .no, .no, .no, .no, .no, .no], set_pick e2 rfl (by kernel_rfl) rfl, ?_⟩
  obtain ⟨c, xs3, e3, hc, g3⟩ := F_pick g2 crewL (by simp) (by simp)
  have bc := crew_ok hc
  refine sC_q (Q := GoodI) ⟨[.o xs3, .v hallD, .v goodD, .v n, .v v, .v c, .no, .no, .no, .no, .no, .no, .no, .no, .no, .no], set_pick e3 rfl (by kernel_rfl) rfl, ?_⟩
  refine sC_q (Q := GoodI) ⟨[.o xs3, .v hallD, .v goodD, .v n, .v v, .v c, .o someL, .no, .no, .no, .no, .no, .no, .no, .no, .no], by kernel_rfl, ?_⟩
  obtain ⟨t, xs4, e4, ht, g4⟩ := F_pick g3 (someL ++ moreL) (by simp) (by simp)
  have bt := tales_ok ht
  refine sC_q (Q := GoodI) ⟨[.o xs4, .v hallD, .v goodD, .v n, .v v, .v c, .o someL, .v t, .no, .no, .no, .no, .no, .no, .no, .no], set_pick e4 rfl (by kernel_rfl) rfl, ?_⟩
  obtain ⟨h, xs5, e5, hh, g5⟩ := F_pick g4 houseL (by simp) (by simp)
  have bh := house_ok hh
  obtain ⟨x, xs6, e6, hx, g6⟩ := F_pick g5 textL (by simp) (by simp)
  have bx := text_ok hx
  refine sC_q (Q := GoodI) ⟨[.o xs6, .v hallD, .v goodD, .v n, .v v, .v c, .o someL, .v t, .v h, .v x, .no, .no, .no, .no, .no, .no], ?_, ?_⟩
  · have q1 := vio_pick (m := fun ρ => lstR (liftF (aC (qC .non) (aC (qC (.int 0)) (aC (qC (.int 6)) (aC (qC (.bl true)) (aC (qC (.str "1")) (aC (qU negD (qC (.int 1))) (aC (q2 powD (qC (.int 10)) (qC (.int 60))) aN))))))) ρ)) (ρ := [.o xs4, .v hallD, .v goodD, .v n, .v v, .v c, .o someL, .v t, .no, .no, .no, .no, .no, .no, .no, .no]) e5 rfl (by kernel_rfl)
    have q2 := vio_pick (m := fun ρ => lstR (liftF (aC (qC (.bl true)) (aC (fun ρ => lstO ((aC (qC (.int 1)) aN) ρ)) (aC (qC (.dic [] [])) (aC (qC (.str "text")) (aC (fun ρ => tupO ((aC (qC (.bl true)) aN) ρ)) (aC (fun ρ => tupO ((aC (fun ρ => lstO (aN ρ)) aN) ρ)) aN)))))) ρ)) (ρ := [.o xs5, .v hallD, .v goodD, .v n, .v v, .v c, .o someL, .v t, .no, .no, .no, .no, .no, .no, .no, .no]) e6 rfl (by kernel_rfl)
    simp only [sAsg_s, vTup_s]
    rw [mC_2 q1 q2]
    kernel_rfl
  refine sC_q (Q := GoodI) ⟨[.o xs6, .v hallD, .v goodD, .v n, .v v, .v c, .o someL, .v t, .v h, .v x, .o [], .o [], .no, .no, .no, .no], by kernel_rfl, ?_⟩
  refine sC_q (Q := GoodI) ⟨[.o xs6, .v hallD, .v goodD, .v n, .v v, .v c, .o someL, .v t, .v h, .v x, .o (four ++ four ++ four), .o (dues ++ dues ++ dues), .v (.fn 2), .no, .no, .no], ?_, ?_⟩
  · have l1 := body (n := 0) (r := [.no, .no, .no]) (a := .o xs6) (L := []) (M := []) (s6 := .o someL) (s8 := .v h) (s9 := .v x) (bn.ph v c t) (bv.ph c t) (bc.ph t) bt.ph (by simp) (by simp)
    have l2 := body (n := 1) (r := [.no, .no, .no]) (a := .o xs6) (L := four) (M := dues) (s6 := .o someL) (s8 := .v h) (s9 := .v x) (bn.ag v c t) (bv.ag c t) (bc.ag t) bt.ag (by simp) (by simp)
    have l3 := body (n := 2) (r := [.no, .no, .no]) (a := .o xs6) (L := four ++ four) (M := dues ++ dues) (s6 := .o someL) (s8 := .v h) (s9 := .v x) (bn.se v c t) (bv.se c t) (bc.se t) bt.se (by simp) (by simp)
    simp only [List.nil_append] at l1
    rw [sFor_s]
    show forS (gV 12) p1__law_right [.fn 0, .fn 1, .fn 2] _ = _
    simp -implicitDefEqProofs only [forS, gV, notOwn, List.getElem?_cons_succ, List.getElem?_cons_zero, if_true, List.set_cons_succ, List.set_cons_zero, l1, l2, l3]
  have f := bn.wa h x c t
  refine sC_q (Q := GoodI) ⟨[.o xs6, .v hallD, .v goodD, .v n, .v v, .v c, .o someL, .v t, .v h, .v x, .o (four ++ four ++ four ++ [refT "hall"]), .o (dues ++ dues ++ dues), .v (.fn 2), .no, .no, .no], app_lam (L := four ++ four ++ four) rfl (by simp -implicitDefEqProofs [f]) hv1 (by simp), ?_⟩
  clear f
  have f := bh.wa x c t
  refine sC_q (Q := GoodI) ⟨[.o xs6, .v hallD, .v goodD, .v n, .v v, .v c, .o someL, .v t, .v h, .v x, .o (four ++ four ++ four ++ [refT "hall"] ++ [refT (numS h)]), .o (dues ++ dues ++ dues), .v (.fn 2), .no, .no, .no], app_lam (L := four ++ four ++ four ++ [refT "hall"]) rfl (by simp -implicitDefEqProofs [f]) bh.hv (by simp), ?_⟩
  clear f
  have f := bx.wa c t
  refine sC_q (Q := GoodI) ⟨[.o xs6, .v hallD, .v goodD, .v n, .v v, .v c, .o someL, .v t, .v h, .v x, .o (four ++ four ++ four ++ [refT "hall"] ++ [refT (numS h)] ++ [refT "word"]), .o (dues ++ dues ++ dues), .v (.fn 2), .no, .no, .no], app_lam (L := four ++ four ++ four ++ [refT "hall"] ++ [refT (numS h)]) rfl (by simp -implicitDefEqProofs [f]) hv0 (by simp), ?_⟩
  clear f
  have f := bc.wa t
  refine sC_q (Q := GoodI) ⟨[.o xs6, .v hallD, .v goodD, .v n, .v v, .v c, .o someL, .v t, .v h, .v x, .o (four ++ four ++ four ++ [refT "hall"] ++ [refT (numS h)] ++ [refT "word"] ++ [refT "lot"]), .o (dues ++ dues ++ dues), .v (.fn 2), .no, .no, .no], app_lam (L := four ++ four ++ four ++ [refT "hall"] ++ [refT (numS h)] ++ [refT "word"]) rfl (by simp -implicitDefEqProofs [f]) hv2 (by simp), ?_⟩
  clear f
  have f := bn.la c
  refine sC_q (Q := GoodI) ⟨[.o xs6, .v hallD, .v goodD, .v n, .v v, .v c, .o someL, .v t, .v h, .v x, .o (four ++ four ++ four ++ [refT "hall"] ++ [refT (numS h)] ++ [refT "word"] ++ [refT "lot"] ++ [refT "hall"]), .o (dues ++ dues ++ dues), .v (.fn 2), .no, .no, .no], app_lam (L := four ++ four ++ four ++ [refT "hall"] ++ [refT (numS h)] ++ [refT "word"] ++ [refT "lot"]) rfl (by simp -implicitDefEqProofs [f]) hv1 (by simp), ?_⟩
  clear f
  have f := bc.la
  refine sC_q (Q := GoodI) ⟨[.o xs6, .v hallD, .v goodD, .v n, .v v, .v c, .o someL, .v t, .v h, .v x, .o (four ++ four ++ four ++ [refT "hall"] ++ [refT (numS h)] ++ [refT "word"] ++ [refT "lot"] ++ [refT "hall"] ++ [refT "lot"]), .o (dues ++ dues ++ dues), .v (.fn 2), .no, .no, .no], app_lam (L := four ++ four ++ four ++ [refT "hall"] ++ [refT (numS h)] ++ [refT "word"] ++ [refT "lot"] ++ [refT "hall"]) rfl (by simp -implicitDefEqProofs [f]) hv2 (by simp), ?_⟩
  clear f
  have f := bc.lp
  refine sC_q (Q := GoodI) ⟨[.o xs6, .v hallD, .v goodD, .v n, .v v, .v c, .o someL, .v t, .v h, .v x, .o (four ++ four ++ four ++ [refT "hall"] ++ [refT (numS h)] ++ [refT "word"] ++ [refT "lot"] ++ [refT "hall"] ++ [refT "lot"] ++ [refT "lot"]), .o (dues ++ dues ++ dues), .v (.fn 2), .no, .no, .no], app_lam (L := four ++ four ++ four ++ [refT "hall"] ++ [refT (numS h)] ++ [refT "word"] ++ [refT "lot"] ++ [refT "hall"] ++ [refT "lot"]) rfl (by simp -implicitDefEqProofs [f]) hv2 (by simp), ?_⟩
  clear f
  have f := bn.il c .non
  refine sC_q (Q := GoodI) ⟨[.o xs6, .v hallD, .v goodD, .v n, .v v, .v c, .o someL, .v t, .v h, .v x, .o (four ++ four ++ four ++ [refT "hall"] ++ [refT (numS h)] ++ [refT "word"] ++ [refT "lot"] ++ [refT "hall"] ++ [refT "lot"] ++ [refT "lot"] ++ [refT "hall"]), .o (dues ++ dues ++ dues), .v (.fn 2), .no, .no, .no], app_lam (L := four ++ four ++ four ++ [refT "hall"] ++ [refT (numS h)] ++ [refT "word"] ++ [refT "lot"] ++ [refT "hall"] ++ [refT "lot"] ++ [refT "lot"]) rfl (by simp -implicitDefEqProofs [f]) hv1 (by simp), ?_⟩
  clear f
  have f := bc.il .non
  refine sC_q (Q := GoodI) ⟨[.o xs6, .v hallD, .v goodD, .v n, .v v, .v c, .o someL, .v t, .v h, .v x, .o (four ++ four ++ four ++ [refT "hall"] ++ [refT (numS h)] ++ [refT "word"] ++ [refT "lot"] ++ [refT "hall"] ++ [refT "lot"] ++ [refT "lot"] ++ [refT "hall"] ++ [refT "lot"]), .o (dues ++ dues ++ dues), .v (.fn 2), .no, .no, .no], app_lam (L := four ++ four ++ four ++ [refT "hall"] ++ [refT (numS h)] ++ [refT "word"] ++ [refT "lot"] ++ [refT "hall"] ++ [refT "lot"] ++ [refT "lot"] ++ [refT "hall"]) rfl (by simp -implicitDefEqProofs [f]) hv2 (by simp), ?_⟩
  clear f
  have f := bn.ke v x
  refine sC_q (Q := GoodI) ⟨[.o xs6, .v hallD, .v goodD, .v n, .v v, .v c, .o someL, .v t, .v h, .v x, .o (four ++ four ++ four ++ [refT "hall"] ++ [refT (numS h)] ++ [refT "word"] ++ [refT "lot"] ++ [refT "hall"] ++ [refT "lot"] ++ [refT "lot"] ++ [refT "hall"] ++ [refT "lot"] ++ [refT "hall"]), .o (dues ++ dues ++ dues), .v (.fn 2), .no, .no, .no], app_lam (L := four ++ four ++ four ++ [refT "hall"] ++ [refT (numS h)] ++ [refT "word"] ++ [refT "lot"] ++ [refT "hall"] ++ [refT "lot"] ++ [refT "lot"] ++ [refT "hall"] ++ [refT "lot"]) rfl (by simp -implicitDefEqProofs [f]) hv1 (by simp), ?_⟩
  clear f
  have f := bv.ke x
  refine sC_q (Q := GoodI) ⟨[.o xs6, .v hallD, .v goodD, .v n, .v v, .v c, .o someL, .v t, .v h, .v x, .o (four ++ four ++ four ++ [refT "hall"] ++ [refT (numS h)] ++ [refT "word"] ++ [refT "lot"] ++ [refT "hall"] ++ [refT "lot"] ++ [refT "lot"] ++ [refT "hall"] ++ [refT "lot"] ++ [refT "hall"] ++ [refT "word"]), .o (dues ++ dues ++ dues), .v (.fn 2), .no, .no, .no], app_lam (L := four ++ four ++ four ++ [refT "hall"] ++ [refT (numS h)] ++ [refT "word"] ++ [refT "lot"] ++ [refT "hall"] ++ [refT "lot"] ++ [refT "lot"] ++ [refT "hall"] ++ [refT "lot"] ++ [refT "hall"]) rfl (by simp -implicitDefEqProofs [f]) hv0 (by simp), ?_⟩
  clear f
  have f := bx.ke
  refine sC_q (Q := GoodI) ⟨[.o xs6, .v hallD, .v goodD, .v n, .v v, .v c, .o someL, .v t, .v h, .v x, .o (four ++ four ++ four ++ [refT "hall"] ++ [refT (numS h)] ++ [refT "word"] ++ [refT "lot"] ++ [refT "hall"] ++ [refT "lot"] ++ [refT "lot"] ++ [refT "hall"] ++ [refT "lot"] ++ [refT "hall"] ++ [refT "word"] ++ [refT "word"]), .o (dues ++ dues ++ dues), .v (.fn 2), .no, .no, .no], app_lam (L := four ++ four ++ four ++ [refT "hall"] ++ [refT (numS h)] ++ [refT "word"] ++ [refT "lot"] ++ [refT "hall"] ++ [refT "lot"] ++ [refT "lot"] ++ [refT "hall"] ++ [refT "lot"] ++ [refT "hall"] ++ [refT "word"]) rfl (by simp -implicitDefEqProofs [f]) hv0 (by simp), ?_⟩
  clear f
  have rp := bh.rp
  have ad := bh.ad
  refine sC_q (Q := GoodI) ⟨[.o xs6, .v hallD, .v goodD, .v n, .v v, .v c, .o someL, .v t, .v h, .v x, .o (four ++ four ++ four ++ [refT "hall"] ++ [refT (numS h)] ++ [refT "word"] ++ [refT "lot"] ++ [refT "hall"] ++ [refT "lot"] ++ [refT "lot"] ++ [refT "hall"] ++ [refT "lot"] ++ [refT "hall"] ++ [refT "word"] ++ [refT "word"]), .o (dues ++ dues ++ dues ++ [.str "hall", .str (numS h), .str "word", .str "lot", .str "hall", .str "lot", .str "lot", .str "hall", .str "lot", .str "hall", .str "word", .str "word"]), .v (.fn 2), .no, .no, .no], by simp -implicitDefEqProofs [rp, ad], ?_⟩
  obtain ⟨d, xs7, e7, hd, g7⟩ := F_pick g6 heardL (by simp) (by simp)
  have bd := heard_ok hd
  refine sC_q (Q := GoodI) ⟨[.o xs7, .v hallD, .v goodD, .v n, .v v, .v c, .o someL, .v t, .v h, .v x, .o (four ++ four ++ four ++ [refT "hall"] ++ [refT (numS h)] ++ [refT "word"] ++ [refT "lot"] ++ [refT "hall"] ++ [refT "lot"] ++ [refT "lot"] ++ [refT "hall"] ++ [refT "lot"] ++ [refT "hall"] ++ [refT "word"] ++ [refT "word"]), .o (dues ++ dues ++ dues ++ [.str "hall", .str (numS h), .str "word", .str "lot", .str "hall", .str "lot", .str "lot", .str "hall", .str "lot", .str "hall", .str "word", .str "word"]), .v (.fn 2), .v d, .no, .no], set_pick e7 rfl (by kernel_rfl) rfl, ?_⟩
  have f := bd
  refine sC_q (Q := GoodI) ⟨[.o xs7, .v hallD, .v goodD, .v n, .v v, .v c, .o someL, .v t, .v h, .v x, .o (four ++ four ++ four ++ [refT "hall"] ++ [refT (numS h)] ++ [refT "word"] ++ [refT "lot"] ++ [refT "hall"] ++ [refT "lot"] ++ [refT "lot"] ++ [refT "hall"] ++ [refT "lot"] ++ [refT "hall"] ++ [refT "word"] ++ [refT "word"] ++ [refT "word"]), .o (dues ++ dues ++ dues ++ [.str "hall", .str (numS h), .str "word", .str "lot", .str "hall", .str "lot", .str "lot", .str "hall", .str "lot", .str "hall", .str "word", .str "word"]), .v (.fn 2), .v d, .no, .no], app_lam (L := four ++ four ++ four ++ [refT "hall"] ++ [refT (numS h)] ++ [refT "word"] ++ [refT "lot"] ++ [refT "hall"] ++ [refT "lot"] ++ [refT "lot"] ++ [refT "hall"] ++ [refT "lot"] ++ [refT "hall"] ++ [refT "word"] ++ [refT "word"]) rfl (by simp -implicitDefEqProofs [f]) hv0 (by simp), ?_⟩
  clear f
  refine sC_q (Q := GoodI) ⟨[.o xs7, .v hallD, .v goodD, .v n, .v v, .v c, .o someL, .v t, .v h, .v x, .o (four ++ four ++ four ++ [refT "hall"] ++ [refT (numS h)] ++ [refT "word"] ++ [refT "lot"] ++ [refT "hall"] ++ [refT "lot"] ++ [refT "lot"] ++ [refT "hall"] ++ [refT "lot"] ++ [refT "hall"] ++ [refT "word"] ++ [refT "word"] ++ [refT "word"]), .o (dues ++ dues ++ dues ++ [.str "hall", .str (numS h), .str "word", .str "lot", .str "hall", .str "lot", .str "lot", .str "hall", .str "lot", .str "hall", .str "word", .str "word"]), .v (.fn 2), .v d, .o (wideL v), .no], by kernel_rfl, ?_⟩
  obtain ⟨w, xs8, e8, hw, g8⟩ := F_pick g7 (wideL v) (by simp) (by simp)
  have bw := wide_ok hv hw
  refine sC_q (Q := GoodI) ⟨[.o xs8, .v hallD, .v goodD, .v n, .v v, .v c, .o someL, .v t, .v h, .v x, .o (four ++ four ++ four ++ [refT "hall"] ++ [refT (numS h)] ++ [refT "word"] ++ [refT "lot"] ++ [refT "hall"] ++ [refT "lot"] ++ [refT "lot"] ++ [refT "hall"] ++ [refT "lot"] ++ [refT "hall"] ++ [refT "word"] ++ [refT "word"] ++ [refT "word"]), .o (dues ++ dues ++ dues ++ [.str "hall", .str (numS h), .str "word", .str "lot", .str "hall", .str "lot", .str "lot", .str "hall", .str "lot", .str "hall", .str "word", .str "word"]), .v (.fn 2), .v d, .v (.lst (wideL v)), .no], ?_, ?_⟩
  · have is1 : isnotD (.bl false) (.bl false) = some (.bl false) := by kernel_rfl
    simp -implicitDefEqProofs [e8, bw, is1]
  have tn : ∀ s : Str, D.tm 0 (.str s) = true → D.tm 1 (refT s) = true := fun s h => by
    have a1 : D.tm 0 (.str "refused") = true := by kernel_rfl
    simp only [D.tm, D.tms] at *
    simp [a1, h]
  have ey := eqD_yes (n := 2) (d := .lst [refT "hall", refT "word", refT "lot", refT "lies", refT "hall", refT "word", refT "lot", refT "lies", refT "hall", refT "word", refT "lot", refT "lies", refT "hall", refT (numS h), refT "word", refT "lot", refT "hall", refT "lot", refT "lot", refT "hall", refT "lot", refT "hall", refT "word", refT "word", refT "word"]) (by
    have t1 := tn _ bh.tm
    have t2 : D.tm 1 (refT "hall") = true := by kernel_rfl
    have t3 : D.tm 1 (refT "word") = true := by kernel_rfl
    have t4 : D.tm 1 (refT "lot") = true := by kernel_rfl
    have t5 : D.tm 1 (refT "lies") = true := by kernel_rfl
    show D.tms 1 _ = true
    simp only [D.tms, t1, t2, t3, t4, t5, Bool.and_true]) (by omega)
  clear tn e8 bw hw
  refine ⟨xs8, ?_, g8⟩
  generalize numS h = nh at ey ⊢
  rw [fin_eq (d := .lst [refT "hall", refT "word", refT "lot", refT "lies", refT "hall", refT "word", refT "lot", refT "lies", refT "hall", refT "word", refT "lot", refT "lies", refT "hall", refT (nh), refT "word", refT "lot", refT "hall", refT "lot", refT "lot", refT "hall", refT "lot", refT "hall", refT "word", refT "word", refT "word"]) (e := .lst [refT "hall", refT "word", refT "lot", refT "lies", refT "hall", refT "word", refT "lot", refT "lies", refT "hall", refT "word", refT "lot", refT "lies", refT "hall", refT (nh), refT "word", refT "lot", refT "hall", refT "lot", refT "lot", refT "hall", refT "lot", refT "hall", refT "word", refT "word", refT "word"]) (ρ' := [.o xs8, .v hallD, .v goodD, .v n, .v v, .v c, .o someL, .v t, .v h, .v x, .v (.lst [refT "hall", refT "word", refT "lot", refT "lies", refT "hall", refT "word", refT "lot", refT "lies", refT "hall", refT "word", refT "lot", refT "lies", refT "hall", refT (nh), refT "word", refT "lot", refT "hall", refT "lot", refT "lot", refT "hall", refT "lot", refT "hall", refT "word", refT "word", refT "word"]), .o (dues ++ dues ++ dues ++ [.str "hall", .str (nh), .str "word", .str "lot", .str "hall", .str "lot", .str "lot", .str "hall", .str "lot", .str "hall", .str "word", .str "word"]), .v (.fn 2), .v d, .v (.lst (wideL v)), .no]) rfl (by kernel_rfl) ey]
  rfl
end LK81
end
section
set_option Elab.async false
set_option linter.all false
set_option maxRecDepth 100000
set_option maxHeartbeats 4000000
namespace LK81
open PySem PySem.Spec L2 VL
theorem law_all : Law := by
  intro ns hlen hbits
  unfold F_law m_law
  simp only [runF_s]
  have hI : ns.map D.int = I ns := rfl
  rw [hI]
  obtain ⟨k, hk, hk4⟩ : ∃ k : Nat, (if (if (ns.length : Int) < 4 then (ns.length : Int) else 4) > 1 then (if (ns.length : Int) < 4 then (ns.length : Int) else 4) else 1) = (k : Int) ∧ k ≤ 4 := by
    refine ⟨(if (if (ns.length : Int) < 4 then (ns.length : Int) else 4) > 1 then (if (ns.length : Int) < 4 then (ns.length : Int) else 4) else 1).toNat, ?_, ?_⟩
    · split <;> omega
    · split <;> omega
  have rk := rangeD_1 (j := (k : Int)) (by omega) (by omega)
  rw [Int.toNat_natCast] at rk
  refine sC_q (Q := fun r => fz (finF r) = .ok (.bl true)) ?_
  refine for_c (xs := rngL 0 k) (ρ0 := [.v (.lst (I ns)), .no, .no, .no, .no]) (fun ρ => ∃ s1 s2, notOwn (some s1) = true ∧ ρ = [.v (.lst (I ns)), s1, s2, .no, .no]) ?_ ⟨_, _, rfl, rfl⟩ ?_ ?_
  · simp -implicitDefEqProofs only [liftF_s, iC_s, aC_s, aN_s, qCB_s, qC_s, qB_s, start0_s, List.map_cons, List.map_nil, List.cons_append, List.nil_append, List.getElem?_cons_zero, Option.bind_some, lenD_l, I_len, minD_i, maxD_i]
    rw [hk, rk]
    rfl
  · rintro ρ' ⟨s1, s2, n1, rfl⟩
    kernel_rfl
  · rintro x hx ρ ⟨s1, s2, n1, rfl⟩
    obtain ⟨s, -, rfl⟩ := List.mem_map.mp hx
    obtain ⟨xs0, ed, g0⟩ := F_dice ns s
    refine ⟨[.v (.lst (I ns)), .v (.int s), s2, .no, .no], by simp -implicitDefEqProofs [n1], ?_⟩
    refine sC_q (Q := fun r => ∃ ρ2, r = .nx ρ2 ∧ ∃ s1 s2, notOwn (some s1) = true ∧ ρ2 = [.v (.lst (I ns)), s1, s2, .no, .no]) ⟨[.v (.lst (I ns)), .v (.int s), .o xs0, .no, .no], ?_, ?_⟩
    · simp -implicitDefEqProofs [ed]
    obtain ⟨xs1, e1, g1⟩ := law_right g0
    obtain ⟨xs2, e2, g2⟩ := law_right g1
    exact ⟨[.v (.lst (I ns)), .v (.int s), .o xs2, .no, .no], by simp -implicitDefEqProofs [e1, e2], _, _, rfl, rfl⟩
theorem holds : PySem.Challenge.rw_evencoins_k81_errors_of_kings.Holds := holds_of law_all
end LK81
end
set_option maxRecDepth 100000 in
set_option maxHeartbeats 8000000 in
theorem PySem.Challenge.cw_evencoins_k81_errors_of_kings_holds : PySem.Challenge.rw_evencoins_k81_errors_of_kings.Holds := by
  exact LK81.holds
