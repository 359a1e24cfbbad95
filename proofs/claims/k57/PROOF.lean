import PyProof.Rows.All
import Wide.All
import OpenK.AllK
import Wide.FinOn
import HandS.ForMost
import HandS.ForExc
import HandS.Defaults
import HandS.IsInst
import HandS.Wide
import HandS.Style
import HandS.Conv
import HandS.TupSets
import HandS.HeadEnd
import KE.SortData
import KE.DataMinMax
import HandS.Ends
import PyProof.LongRange
import HandS.TupLe
import HandS.Deep
import KE.KDictZip
import HandS.ListItems
import PyProof.ReprBulk
import HandS.TryOnly
import HandS.RaiseMore
import HandS.ExcField
import HandS.ExcInit
import HandS.HeadHook2
import KE.KExcIs
import HandS.TupAny
import HandS.SortRule
import HandS.FStr
import HandS.Text
import HandS.Iter
import KE.KStateDown
import Lean
import HandS.Head0
import HandS.Head1
import HandS.Head2
import HandS.HeadHook1
import HandS.WordsExc
import PySem.Challenge.RW_growfences_k57_texts_as_written
set_option Elab.async false
set_option linter.all false
set_option maxRecDepth 100000
set_option maxHeartbeats 4000000
namespace GX
open PySem PySem.Spec PyProof.Rows L2
inductive D where
  | non | bl (b : Bool) | int (i : Int) | str (x : Str)
  | ty (n : String)
  | lst (ds : List D) | tup (ds : List D)
  | ins (C : Str) (fs : List Str) (ds : List D)
  | exc (C : Str) (fs : List Str) (ds : List D)
  | emp
/-- what stands around: the program's known part, the module's names -/
structure En where
  K : PySem.W.Frag
  mg : Str → Option Value
abbrev _root_.L2.Cx.en (X : Cx) : En := ⟨X.K, X.mg⟩
abbrev Le (H H' : Hp) : Prop := ∀ b o, H b = some o → H' b = some o
theorem Le.refl (H : Hp) : Le H H := fun _ _ h => h
theorem Le.trans {H H1 H2 : Hp} (a : Le H H1) (b : Le H1 H2) : Le H H2 := fun x o h => b x o (a x o h)
/-- a list that is read, its object known to the last field -/
def LsK (K : En) (H : Hp) (a : Addr) (xs : List V) : Prop :=
  Rd H a (.lst xs) ∨ ∃ (its : Array Value) (n : Nat), K.K.lookup a = some { cls := .type "list", data := .seq its n } ∧ its.size ≤ sizeLine ∧ Vals xs its.toList
theorem LsK.of {K : En} {H : Hp} {a : Addr} {xs : List V} (h : H a = some (.lst xs)) : LsK K H a xs := .inl (.inl h)
theorem LsK.sq {K : En} {H : Hp} {a : Addr} {xs : List V} (h : LsK K H a xs) : SqL K.K H a xs := by
  rcases h with h | ⟨its, n, h1, h2, h3⟩
  · exact .inl h
  · exact .inr ⟨_, its, n, h1, rfl, rfl, rfl, h2, h3⟩
/-- an exception object of the class at C, its dict, whatever its other fields are -/
def exq (a C : Addr) (d : Option Addr) : HO := .ext fun h => ∃ (o : Obj) (vs : Array Value), h.get? a = some o ∧ o.cls = .ref C ∧ o.dict = d ∧ o.data = .fields vs
mutual
inductive Dv (K : En) (H : Hp) : V → D → Prop
  | non : Dv K H .non .non
  | bl (b : Bool) : Dv K H (.bl b) (.bl b)
  | int (i : Int) : Dv K H (.int i) (.int i)
  | str (x : Str) : Dv K H (.str x) (.str x)
  | ty (n : String) : Dv K H (.ty n) (.ty n)
  | lst {a : Addr} {xs : List V} {ds : List D} : LsK K H a xs → DvAll K H xs ds → Dv K H (.ref a) (.lst ds)
  | tup {a : Addr} {xs : List V} {ds : List D} : SqT K.K H a xs → DvAll K H xs ds → Dv K H (.ref a) (.tup ds)
  | ins {a Ca dx : Addr} {C : Str} {fs : List (Str × V)} {ds : List D} : K.mg C = some (.ref Ca) → H a = some (.ins Ca dx fs) → DvAll K H (fs.map (·.2)) ds → Dv K H (.ref a) (.ins C (fs.map (·.1)) ds)
  | ex0 {a Ca : Addr} {C : Str} : K.mg C = some (.ref Ca) → H a = some (exq a Ca none) → Dv K H (.ref a) (.exc C [] [])
  | exd {a Ca dx : Addr} {C : Str} {fs : List (Str × V)} {ds : List D} : K.mg C = some (.ref Ca) → H a = some (exq a Ca (some dx)) → H dx = some (.xd fs) → DvAll K H (fs.map (·.2)) ds → Dv K H (.ref a) (.exc C (fs.map (·.1)) ds)
  | emp {a : Addr} : H a = some (.dK []) → Dv K H (.ref a) .emp
inductive DvAll (K : En) (H : Hp) : List V → List D → Prop
  | nil : DvAll K H [] []
  | cons {v : V} {vs : List V} {d : D} {ds : List D} : Dv K H v d → DvAll K H vs ds → DvAll K H (v :: vs) (d :: ds)
end
section
variable {K : En} {H H' : Hp}
theorem rd_mono {a : Addr} {u : HO} (e : Le H H') (h : Rd H a u) : Rd H' a u := by
  rcases h with h | ⟨o, h⟩
  · exact Or.inl (e a _ h)
  · exact Or.inr ⟨o, e a _ h⟩
theorem lsk_mono {a : Addr} {xs : List V} (e : Le H H') (h : LsK K H a xs) : LsK K H' a xs := by
  rcases h with h | h
  · exact Or.inl (rd_mono e h)
  · exact Or.inr h
theorem sqt_mono {K : PySem.W.Frag} {a : Addr} {xs : List V} (e : Le H H') (h : SqT K H a xs) : SqT K H' a xs := by
  rcases h with h | h
  · exact Or.inl (rd_mono e h)
  · exact Or.inr h
mutual
theorem Dv.mono (e : Le H H') : ∀ (d : D) (v : V), Dv K H v d → Dv K H' v d
  | .non, _, h => by cases h; exact .non
  | .bl _, _, h => by cases h; exact .bl _
  | .int _, _, h => by cases h; exact .int _
  | .str _, _, h => by cases h; exact .str _
  | .ty _, _, h => by cases h; exact .ty _
  | .lst ds, _, h => by
    cases h with
    | lst hs ha => exact .lst (lsk_mono e hs) (DvAll.mono e ds _ ha)
  | .tup ds, _, h => by
    cases h with
    | tup hs ha => exact .tup (sqt_mono e hs) (DvAll.mono e ds _ ha)
  | .ins C fs ds, _, h => by
    cases h with
    | ins hg hs ha => exact .ins hg (e _ _ hs) (DvAll.mono e ds _ ha)
  | .exc C fs ds, _, h => by
    cases h with
    | ex0 hg hs => exact .ex0 hg (e _ _ hs)
    | exd hg hs hd ha => exact .exd hg (e _ _ hs) (e _ _ hd) (DvAll.mono e ds _ ha)
  | .emp, _, h => by
    cases h with
    | emp hs => exact .emp (e _ _ hs)
theorem DvAll.mono (e : Le H H') : ∀ (ds : List D) (vs : List V), DvAll K H vs ds → DvAll K H' vs ds
  | [], _, h => by cases h; exact .nil
  | d :: ds, _, h => by
    cases h with
    | cons h1 h2 => exact .cons (Dv.mono e d _ h1) (DvAll.mono e ds _ h2)
end
theorem Dv.up {v : V} {d : D} (h : Dv K H v d) (e : Le H H') : Dv K H' v d := Dv.mono e d v h
theorem DvAll.up {vs : List V} {ds : List D} (h : DvAll K H vs ds) (e : Le H H') : DvAll K H' vs ds := DvAll.mono e ds vs h
theorem DvAll.length : ∀ {vs : List V} {ds : List D}, DvAll K H vs ds → vs.length = ds.length
  | _, _, .nil => rfl
  | _, _, .cons _ t => by rw [List.length_cons, List.length_cons, DvAll.length t]
theorem DvAll.get : ∀ {vs : List V} {ds : List D} {i : Nat} {d : D}, DvAll K H vs ds → ds[i]? = some d → ∃ v, vs[i]? = some v ∧ Dv K H v d
  | _, _, _, _, .nil, e => by simp at e
  | _, _, 0, _, .cons r _, e => by simp at e; subst e; exact ⟨_, rfl, r⟩
  | _, _, i + 1, _, .cons _ t, e => by
    obtain ⟨u, h1, h2⟩ := DvAll.get (i := i) t (by simpa using e)
    exact ⟨u, by simpa using h1, h2⟩
theorem DvAll.get' : ∀ {vs : List V} {ds : List D} {i : Nat} {v : V}, DvAll K H vs ds → vs[i]? = some v → ∃ d, ds[i]? = some d ∧ Dv K H v d
  | _, _, _, _, .nil, e => by simp at e
  | _, _, 0, _, .cons r _, e => by simp at e; subst e; exact ⟨_, rfl, r⟩
  | _, _, i + 1, _, .cons _ t, e => by
    obtain ⟨u, h1, h2⟩ := DvAll.get' (i := i) t (by simpa using e)
    exact ⟨u, by simpa using h1, h2⟩
theorem DvAll.append : ∀ {xs ys : List V} {ds es : List D}, DvAll K H xs ds → DvAll K H ys es → DvAll K H (xs ++ ys) (ds ++ es)
  | _, _, _, _, .nil, s => s
  | _, _, _, _, .cons r t, s => .cons r (DvAll.append t s)
theorem DvAll.take : ∀ {xs : List V} {ds : List D} (n : Nat), DvAll K H xs ds → DvAll K H (xs.take n) (ds.take n)
  | _, _, 0, _ => .nil
  | _, _, _ + 1, .nil => .nil
  | _, _, n + 1, .cons r t => .cons r (DvAll.take n t)
theorem DvAll.drop : ∀ {xs : List V} {ds : List D} (n : Nat), DvAll K H xs ds → DvAll K H (xs.drop n) (ds.drop n)
  | _, _, 0, r => r
  | _, _, _ + 1, .nil => .nil
  | _, _, n + 1, .cons _ t => DvAll.drop n t
theorem DvAll.set {x : V} {d : D} (r : Dv K H x d) : ∀ {xs : List V} {ds : List D} (i : Nat), DvAll K H xs ds → DvAll K H (xs.set i x) (ds.set i d)
  | _, _, _, .nil => .nil
  | _, _, 0, .cons _ t => .cons r t
  | _, _, i + 1, .cons q t => .cons q (DvAll.set r i t)
theorem DvAll.one {v : V} {d : D} (h : Dv K H v d) : DvAll K H [v] [d] := .cons h .nil
/-- scalars -/
theorem DvAll.ints : ∀ {vs : List V} {ns : List Int}, DvAll K H vs (ns.map D.int) → vs = ns.map V.int
  | _, [], h => by cases h; rfl
  | _, n :: ns, h => by
    cases h with
    | cons h1 h2 =>
      cases h1
      rw [DvAll.ints h2]
      rfl
theorem DvAll.bls : ∀ {vs : List V} {ns : List Bool}, DvAll K H vs (ns.map D.bl) → vs = ns.map V.bl
  | _, [], h => by cases h; rfl
  | _, n :: ns, h => by
    cases h with
    | cons h1 h2 =>
      cases h1
      rw [DvAll.bls h2]
      rfl
theorem DvAll.strs : ∀ {vs : List V} {ns : List Str}, DvAll K H vs (ns.map D.str) → vs = ns.map V.str
  | _, [], h => by cases h; rfl
  | _, n :: ns, h => by
    cases h with
    | cons h1 h2 =>
      cases h1
      rw [DvAll.strs h2]
      rfl
theorem DvAll.of_ints : ∀ (ns : List Int), DvAll K H (ns.map V.int) (ns.map D.int)
  | [] => .nil
  | n :: ns => .cons (.int n) (DvAll.of_ints ns)
end
mutual
def D.py : D → PyData
  | .non => .none
  | .bl b => .bool b
  | .int i => .int i
  | .str x => .str x
  | .ty _ => .none
  | .lst ds => .list (D.pys ds)
  | .tup ds => .tuple (D.pys ds)
  | .ins _ _ _ => .none
  | .exc _ _ _ => .none
  | .emp => .dict []
def D.pys : List D → List PyData
  | [] => []
  | d :: ds => d.py :: D.pys ds
end
mutual
/-- numbers, texts, truth, None, lists and tuples alone -/
def D.plain : D → Bool
  | .lst ds | .tup ds => D.plains ds
  | .ins _ _ _ | .ty _ | .exc _ _ _ | .emp => false
  | _ => true
def D.plains : List D → Bool
  | [] => true
  | d :: ds => d.plain && D.plains ds
end
section
variable {K : En} {H : Hp}
mutual
theorem Dv.dp : ∀ (d : D) (v : V), d.plain = true → Dv K H v d → Dp K.K H v d.py
  | .non, _, _, h => by cases h; rw [D.py]; exact .non
  | .bl _, _, _, h => by cases h; rw [D.py]; exact .bl _
  | .int _, _, _, h => by cases h; rw [D.py]; exact .int _
  | .str _, _, _, h => by cases h; rw [D.py]; exact .str _
  | .ty _, _, p, _ => by simp [D.plain] at p
  | .lst ds, _, p, h => by
    cases h with
    | lst hs ha =>
      rw [D.py]
      exact .lst hs.sq (DvAll.dp ds _ (by simpa [D.plain] using p) ha)
  | .tup ds, _, p, h => by
    cases h with
    | tup hs ha =>
      rw [D.py]
      exact .tup hs (DvAll.dp ds _ (by simpa [D.plain] using p) ha)
  | .ins _ _ _, _, p, _ => by simp [D.plain] at p
  | .exc _ _ _, _, p, _ => by simp [D.plain] at p
  | .emp, _, p, _ => by simp [D.plain] at p
theorem DvAll.dp : ∀ (ds : List D) (vs : List V), D.plains ds = true → DvAll K H vs ds → DpAll K.K H vs (D.pys ds)
  | [], _, _, h => by cases h; rw [D.pys]; exact .nil
  | d :: ds, _, p, h => by
    cases h with
    | cons h1 h2 =>
      rw [D.plains, Bool.and_eq_true] at p
      rw [D.pys]
      exact .cons (Dv.dp d _ p.1 h1) (DvAll.dp ds _ p.2 h2)
end
end
open Classical in
/-- H without the addresses of N -/
noncomputable def msk (N : Addr → Prop) (H : Hp) : Hp := fun b => if N b then none else H b
section
variable {N N' : Addr → Prop} {H H' : Hp} {b : Addr} {o : HO}
theorem msk_of (h : ¬ N b) : msk N H b = H b := by unfold msk; rw [if_neg h]
theorem msk_some (h : msk N H b = some o) : ¬ N b ∧ H b = some o := by
  unfold msk at h
  by_cases n : N b
  · rw [if_pos n] at h; cases h
  · rw [if_neg n] at h; exact ⟨n, h⟩
theorem msk_le : Le (msk N H) H := fun _ _ h => (msk_some h).2
theorem msk_up (e : ∀ b o, ¬ N b → H b = some o → H' b = some o) (n : ∀ b o, H b = some o → ¬ N b → ¬ N' b) : Le (msk N H) (msk N' H') := fun b o h => by
  obtain ⟨h1, h2⟩ := msk_some h
  rw [msk_of (n b o h2 h1)]
  exact e b o h1 h2
theorem msk_mono (e : Le H H') : Le (msk N H) (msk N H') := msk_up (fun b o _ h => e b o h) fun _ _ _ h => h
theorem msk_none : msk (fun _ => False) H = H := by
  funext b
  exact msk_of (fun h => h)
theorem upd_le {p : Addr} {o : HO} (h : H p = none) : Le H (upd H p o) := fun a u e => by
  rw [upd_ne (ne_of_none e h)]
  exact e
end
/-- an object that is lent: a list, an instance -/
inductive Ob where
  | lst (ds : List D) | ins (C : Str) (fs : List Str) (ds : List D)
abbrev Be := List Ob
/-- a slot: empty, data, an own list, the j-th lent object -/
inductive Sl where
  | non | val (d : D) | own (ds : List D) | ref (j : Nat)
abbrev Rho := List Sl
inductive Eo (α : Type) where
  | ok (a : α) (b : Be) | ex (e : D) (b : Be) | no
inductive So where
  | nx (r : Rho) (b : Be) | rt (d : D) (b : Be) | bk (r : Rho) (b : Be) | ct (r : Rho) (b : Be) | ex (e : D) (r : Rho) (b : Be) | no
inductive Ro (α : Type) where
  | ok (a : α) | ex (e : D) | no
structure Co where
  nx : Rho → Be → Prop
  rt : D → Be → Prop
  bk : Rho → Be → Prop := fun _ _ => False
  ct : Rho → Be → Prop := fun _ _ => False
  ex : D → Rho → Be → Prop := fun _ _ _ => False
def Eo.aft {α : Type} (r : Eo α) (f : α → Be → Prop) (g : D → Be → Prop) : Prop := match r with
  | .ok a b => f a b
  | .ex e b => g e b
  | .no => False
def Ro.aft {α : Type} (r : Ro α) (f : α → Prop) (g : D → Prop) : Prop := match r with
  | .ok a => f a
  | .ex e => g e
  | .no => False
def So.aft (s : So) (C : Co) : Prop := match s with
  | .nx r b => C.nx r b
  | .rt d b => C.rt d b
  | .bk r b => C.bk r b
  | .ct r b => C.ct r b
  | .ex e r b => C.ex e r b
  | .no => False
def Eo.bind {α γ : Type} (r : Eo α) (k : α → Be → Eo γ) : Eo γ := match r with
  | .ok a b => k a b
  | .ex e b => .ex e b
  | .no => .no
/-- a pure result, the lent objects as they are -/
def Eo.lift {α : Type} (r : Ro α) (b : Be) : Eo α := match r with
  | .ok a => .ok a b
  | .ex e => .ex e b
  | .no => .no
def Eo.opt {α : Type} (r : Option α) (b : Be) : Eo α := match r with
  | some a => .ok a b
  | none => .no
/-- an expression within a statement -/
def So.of {α : Type} (r : Eo α) (ρ : Rho) (k : α → Be → So) : So := match r with
  | .ok a b => k a b
  | .ex e b => .ex e ρ b
  | .no => .no
def So.seq (s : So) (k : Rho → Be → So) : So := match s with
  | .nx r b => k r b
  | s => s
section
variable {α γ : Type}
theorem Eo.aft_ok (a : α) (b : Be) (f : α → Be → Prop) (g : D → Be → Prop) : (Eo.ok a b).aft f g = f a b := rfl
theorem Eo.aft_bind (r : Eo α) (k : α → Be → Eo γ) (f : γ → Be → Prop) (g : D → Be → Prop) : (r.bind k).aft f g = r.aft (fun a b => (k a b).aft f g) g := by cases r <;> rfl
theorem Eo.aft_lift (r : Ro α) (b : Be) (f : α → Be → Prop) (g : D → Be → Prop) : (Eo.lift r b).aft f g = r.aft (fun a => f a b) (fun e => g e b) := by cases r <;> rfl
theorem So.aft_of (r : Eo α) (ρ : Rho) (k : α → Be → So) (C : Co) : (So.of r ρ k).aft C = r.aft (fun a b => (k a b).aft C) (fun e b => C.ex e ρ b) := by cases r <;> rfl
theorem So.aft_seq (s : So) (k : Rho → Be → So) (C : Co) : (s.seq k).aft C = s.aft { C with nx := fun r b => (k r b).aft C } := by cases s <;> rfl
theorem Eo.aft.imp {r : Eo α} {f f' : α → Be → Prop} {g g' : D → Be → Prop} (h : r.aft f g) (hf : ∀ a b, f a b → f' a b) (hg : ∀ e b, g e b → g' e b) : r.aft f' g' := by
  cases r with
  | ok a b => exact hf a b h
  | ex e b => exact hg e b h
  | no => exact h
theorem So.aft.imp {s : So} {C C' : Co} (h : s.aft C) (h1 : ∀ r b, C.nx r b → C'.nx r b) (h2 : ∀ d b, C.rt d b → C'.rt d b) (h3 : ∀ r b, C.bk r b → C'.bk r b) (h4 : ∀ r b, C.ct r b → C'.ct r b) (h5 : ∀ e r b, C.ex e r b → C'.ex e r b) : s.aft C' := by
  cases s with
  | nx r b => exact h1 r b h
  | rt d b => exact h2 d b h
  | bk r b => exact h3 r b h
  | ct r b => exact h4 r b h
  | ex e r b => exact h5 e r b h
  | no => exact h
theorem Ro.ok_of {r : Ro α} {a : α} (h : r.aft (fun b => b = a) fun _ => False) : r = .ok a := by
  cases r with
  | ok b => exact congrArg _ h
  | ex e => exact h.elim
  | no => exact h.elim
theorem Ro.aft_of {r : Ro α} {a : α} {f : α → Prop} {g : D → Prop} (h : r = .ok a) (hf : f a) : r.aft f g := by rw [h]; exact hf
end
end GX
namespace GX
open PySem PySem.Spec PyProof.Rows L2
/-- a lent object, its parts in Hm -/
def ObIs (K : En) (Hm H : Hp) (a : Addr) : Ob → Prop
  | .lst ds => ∃ vs, H a = some (.lst vs) ∧ DvAll K Hm vs ds
  | .ins C fs ds => ∃ Ca dx kvs, K.mg C = some (.ref Ca) ∧ H a = some (.ins Ca dx kvs) ∧ kvs.map (·.1) = fs ∧ DvAll K Hm (kvs.map (·.2)) ds
theorem ObIs.up {K : En} {Hm Hm' H H' : Hp} {a : Addr} {ob : Ob} (h : ObIs K Hm H a ob) (e : Le Hm Hm') (f : ∀ o, H a = some o → H' a = some o) : ObIs K Hm' H' a ob := by
  cases ob with
  | lst ds => obtain ⟨vs, h1, h2⟩ := h; exact ⟨vs, f _ h1, h2.up e⟩
  | ins C fs ds => obtain ⟨Ca, dx, kvs, h0, h1, h2, h3⟩ := h; exact ⟨Ca, dx, kvs, h0, f _ h1, h2, h3.up e⟩
theorem ObIs.there {K : En} {Hm H : Hp} {a : Addr} {ob : Ob} (h : ObIs K Hm H a ob) : ∃ o, H a = some o := by
  cases ob with
  | lst ds => obtain ⟨vs, h1, h2⟩ := h; exact ⟨_, h1⟩
  | ins C fs ds => obtain ⟨Ca, dx, kvs, h0, h1, h2, h3⟩ := h; exact ⟨_, h1⟩
/-- an exception in the air: its class, its dict -/
def XcIs (K : En) (Hm : Hp) (e : D) (cls : Value) (dx : Option Addr) : Prop := ∃ (C : Str) (Ca : Addr) (fs : List (Str × V)) (ds : List D), e = .exc C (fs.map (·.1)) ds ∧ K.mg C = some (.ref Ca) ∧ cls = .ref Ca ∧ DvAll K Hm (fs.map (·.2)) ds ∧
  ((dx = none ∧ fs = []) ∨ ∃ d, dx = some d ∧ Hm d = some (.xd fs))
theorem XcIs.up {K : En} {Hm Hm' : Hp} {e : D} {cls : Value} {dx : Option Addr} (h : XcIs K Hm e cls dx) (l : Le Hm Hm') : XcIs K Hm' e cls dx := by
  obtain ⟨C, Ca, fs, ds, h1, h2, h3, h4, h5⟩ := h
  refine ⟨C, Ca, fs, ds, h1, h2, h3, h4.up l, ?_⟩
  rcases h5 with h | ⟨d, e, h⟩
  · exact .inl h
  · exact .inr ⟨d, e, l _ _ h⟩
def LeX (bs : List Addr) (H H' : Hp) : Prop := ∀ b o, b ∉ bs → H b = some o → H' b = some o
theorem LeX.refl {bs : List Addr} {H : Hp} : LeX bs H H := fun _ _ _ h => h
theorem LeX.trans {bs : List Addr} {H H1 H2 : Hp} (a : LeX bs H H1) (b : LeX bs H1 H2) : LeX bs H H2 := fun x o n h => b x o n (a x o n h)
theorem Le.x {bs : List Addr} {H H' : Hp} (e : Le H H') : LeX bs H H' := fun b o _ h => e b o h
structure Wd where
  H0 : Hp
  M0 : Addr → Prop
  bs : List Addr
def Wd.N (W : Wd) (O : Addr → Prop) : Addr → Prop := fun b => W.M0 b ∨ O b
structure Stt (K : En) (W : Wd) (O : Addr → Prop) (σ : L2.St) (H : Hp) (ρ : Rho) (c : Be) : Prop where
  ex : LeX W.bs W.H0 H
  m0 : ∀ b, W.M0 b → ∃ o, W.H0 b = some o
  m1 : ∀ b, W.M0 b → ∃ o, H b = some o
  oo : ∀ b, O b → W.H0 b = none ∧ ∃ o, H b = some o
  bm : ∀ a ∈ W.bs, W.M0 a
  bn : W.bs.Nodup
  bl : c.length = W.bs.length
  bo : ∀ (j : Nat) (a : Addr) (ob : Ob), W.bs[j]? = some a → c[j]? = some ob → ObIs K (msk (W.N O) H) H a ob
  len : σ.length = ρ.length
  val : ∀ (i : Nat) (d : D), ρ[i]? = some (Sl.val d) → ∃ v, σ[i]? = some (some v) ∧ Dv K (msk (W.N O) H) v d
  own : ∀ (i : Nat) (ds : List D), ρ[i]? = some (Sl.own ds) → ∃ p vs, σ[i]? = some (some (.ref p)) ∧ O p ∧ H p = some (.lst vs) ∧ DvAll K (msk (W.N O) H) vs ds
  inj : ∀ (i j : Nat) (ds es : List D) (p : Addr), ρ[i]? = some (Sl.own ds) → ρ[j]? = some (Sl.own es) → σ[i]? = some (some (.ref p)) → σ[j]? = some (some (.ref p)) → i = j
  sto : ∀ (i j : Nat), ρ[i]? = some (Sl.ref j) → ∃ a, W.bs[j]? = some a ∧ σ[i]? = some (some (.ref a))
section
variable {K : En} {W : Wd} {O O' : Addr → Prop} {σ : L2.St} {H H' : Hp} {ρ : Rho} {c c' : Be}
theorem Stt.al (S : Stt K W O σ H ρ c) : ∀ b, W.N O b → ∃ o, H b = some o := fun b h => by
  rcases h with h | h
  · exact S.m1 b h
  · exact (S.oo b h).2
theorem Stt.nb (S : Stt K W O σ H ρ c) {b : Addr} (h : ¬ W.N O b) : b ∉ W.bs := fun q => h (.inl (S.bm b q))
theorem lex_msk (S : Stt K W O σ H ρ c) (e : LeX W.bs H H') : Le (msk (W.N O) H) (msk (W.N O) H') := msk_up (fun b o n h => e b o (S.nb n) h) fun _ _ _ h => h
theorem Stt.ob (S : Stt K W O σ H ρ c) {j : Nat} {a : Addr} (h : W.bs[j]? = some a) : ∃ ob, c[j]? = some ob ∧ ObIs K (msk (W.N O) H) H a ob := by
  have hl := (List.getElem?_eq_some_iff.mp h).1
  have e : c[j]? = some (c[j]'(by rw [S.bl]; exact hl)) := List.getElem?_eq_getElem _
  exact ⟨_, e, S.bo j a _ h e⟩
/-- an own list's place is no lent one -/
theorem Stt.own_nb (S : Stt K W O σ H ρ c) {p : Addr} (h : O p) : p ∉ W.bs := fun q => by
  obtain ⟨o, e⟩ := S.m0 p (S.bm p q)
  rw [(S.oo p h).1] at e; cases e
/-- objects are added -/
theorem Stt.up (S : Stt K W O σ H ρ c) (e : Le H H') : Stt K W O σ H' ρ c where
  ex := S.ex.trans e.x
  m0 := S.m0
  m1 := fun b h => let ⟨o, q⟩ := S.m1 b h; ⟨o, e b o q⟩
  oo := fun b h => ⟨(S.oo b h).1, let ⟨o, q⟩ := (S.oo b h).2; ⟨o, e b o q⟩⟩
  bm := S.bm
  bn := S.bn
  bl := S.bl
  bo := fun j a ob h1 h2 => (S.bo j a ob h1 h2).up (msk_mono e) fun o q => e a o q
  len := S.len
  val := fun i d h => let ⟨v, q, r⟩ := S.val i d h; ⟨v, q, r.up (msk_mono e)⟩
  own := fun i ds h => let ⟨p, vs, q, r, t, u⟩ := S.own i ds h; ⟨p, vs, q, r, e p _ t, u.up (msk_mono e)⟩
  inj := S.inj
  sto := S.sto
theorem set_val {ρ : Rho} {i : Nat} {s t : Sl} (h : (ρ.set i s)[i]? = some t) : t = s := by
  rw [List.getElem?_set] at h
  simp only [if_true] at h
  by_cases l : i < ρ.length
  · rw [if_pos l] at h; exact (Option.some.inj h).symm
  · rw [if_neg l] at h; cases h
theorem set_lt {ρ : Rho} {i : Nat} {s t : Sl} (h : (ρ.set i s)[i]? = some t) : i < ρ.length := by
  have := (List.getElem?_eq_some_iff.mp h).1
  rwa [List.length_set] at this
/-- slot i emptied or given other data, told by what holds of the new slot -/
theorem Stt.slot (S : Stt K W O σ H ρ c) (i : Nat) (v : Option V) (s : Sl)
    (hv : ∀ d, s = .val d → ∃ u, v = some u ∧ Dv K (msk (W.N O) H) u d)
    (ho : ∀ ds, s = .own ds → ∃ p vs, v = some (.ref p) ∧ O p ∧ H p = some (.lst vs) ∧ DvAll K (msk (W.N O) H) vs ds ∧ ∀ j es, j ≠ i → ρ[j]? = some (.own es) → σ[j]? ≠ some (some (.ref p)))
    (hs : ∀ j, s = .ref j → ∃ a, W.bs[j]? = some a ∧ v = some (.ref a)) : Stt K W O (σ.set i v) H (ρ.set i s) c where
  ex := S.ex
  m0 := S.m0
  m1 := S.m1
  oo := S.oo
  bm := S.bm
  bn := S.bn
  bl := S.bl
  bo := S.bo
  len := by rw [List.length_set, List.length_set]; exact S.len
  val := fun j e hj => by
    by_cases q : i = j
    · subst q
      have l := set_lt hj
      obtain ⟨u, h1, h2⟩ := hv e (set_val hj).symm
      exact ⟨u, by rw [List.getElem?_set_self (by rw [S.len]; exact l), h1], h2⟩
    · rw [List.getElem?_set_ne q] at hj ⊢
      exact S.val j e hj
  own := fun j ds hj => by
    by_cases q : i = j
    · subst q
      have l := set_lt hj
      obtain ⟨p, vs, h1, h2, h3, h4, _⟩ := ho ds (set_val hj).symm
      exact ⟨p, vs, by rw [List.getElem?_set_self (by rw [S.len]; exact l), h1], h2, h3, h4⟩
    · rw [List.getElem?_set_ne q] at hj ⊢
      exact S.own j ds hj
  inj := fun j k ds es p hj hk sj sk => by
    by_cases nj : i = j
    · by_cases nk : i = k
      · exact nj.symm.trans nk
      · exfalso
        subst nj
        have l := set_lt hj
        obtain ⟨p', vs, h1, _, _, _, h5⟩ := ho ds (set_val hj).symm
        rw [List.getElem?_set_self (by rw [S.len]; exact l), h1] at sj
        cases sj
        rw [List.getElem?_set_ne nk] at hk sk
        exact h5 k es (fun q => nk q.symm) hk sk
    · by_cases nk : i = k
      · exfalso
        subst nk
        have l := set_lt hk
        obtain ⟨p', vs, h1, _, _, _, h5⟩ := ho es (set_val hk).symm
        rw [List.getElem?_set_self (by rw [S.len]; exact l), h1] at sk
        cases sk
        rw [List.getElem?_set_ne nj] at hj sj
        exact h5 j ds (fun q => nj q.symm) hj sj
      · rw [List.getElem?_set_ne nj] at hj sj
        rw [List.getElem?_set_ne nk] at hk sk
        exact S.inj j k ds es p hj hk sj sk
  sto := fun j l hj => by
    by_cases q : i = j
    · subst q
      have hlt := set_lt hj
      obtain ⟨a, h1, h2⟩ := hs l (set_val hj).symm
      exact ⟨a, h1, by rw [List.getElem?_set_self (by rw [S.len]; exact hlt), h2]⟩
    · rw [List.getElem?_set_ne q] at hj ⊢
      exact S.sto j l hj
/-- a store of strong data in a slot -/
theorem Stt.set (S : Stt K W O σ H ρ c) (i : Nat) {v : V} {d : D} (h : Dv K (msk (W.N O) H) v d) : Stt K W O (σ.set i (some v)) H (ρ.set i (.val d)) c :=
  S.slot i _ _ (fun e q => by cases q; exact ⟨v, rfl, h⟩) (fun _ q => nomatch q) (fun _ q => nomatch q)
theorem Stt.clear (S : Stt K W O σ H ρ c) (i : Nat) (v : Option V) : Stt K W O (σ.set i v) H (ρ.set i .non) c :=
  S.slot i _ _ (fun e q => nomatch q) (fun _ q => nomatch q) (fun _ q => nomatch q)
/-- the slots are forgotten, not written -/
theorem Stt.forget (S : Stt K W O σ H ρ c) (i : Nat) : Stt K W O σ H (ρ.set i .non) c where
  ex := S.ex
  m0 := S.m0
  m1 := S.m1
  oo := S.oo
  bm := S.bm
  bn := S.bn
  bl := S.bl
  bo := S.bo
  len := by rw [List.length_set]; exact S.len
  val := fun j e hj => by
    by_cases q : i = j
    · subst q; have z := set_val hj; cases z
    · rw [List.getElem?_set_ne q] at hj
      exact S.val j e hj
  own := fun j ds hj => by
    by_cases q : i = j
    · subst q; have z := set_val hj; cases z
    · rw [List.getElem?_set_ne q] at hj
      exact S.own j ds hj
  inj := fun j k ds es p hj hk sj sk => by
    have nj : i ≠ j := fun q => by subst q; have z := set_val hj; cases z
    have nk : i ≠ k := fun q => by subst q; have z := set_val hk; cases z
    rw [List.getElem?_set_ne nj] at hj
    rw [List.getElem?_set_ne nk] at hk
    exact S.inj j k ds es p hj hk sj sk
  sto := fun j l hj => by
    by_cases q : i = j
    · subst q; have z := set_val hj; cases z
    · rw [List.getElem?_set_ne q] at hj
      exact S.sto j l hj
end
def Vw (K : En) (W : Wd) (O : Addr → Prop) (H : Hp) (v : V) (d : D) : Prop :=
  Dv K (msk (W.N O) H) v d ∨ ∃ ds p vs, d = .lst ds ∧ v = .ref p ∧ O p ∧ H p = some (.lst vs) ∧ DvAll K (msk (W.N O) H) vs ds
abbrev ME := Rho → Be → Eo D
abbrev MT := Rho → Be → Eo Bool
abbrev MA := Rho → Be → Eo (List D)
abbrev MS := Rho → Be → So
/-- a target's store -/
abbrev MG := D → Rho → Option Rho
/-- what is wanted of an exception of an expression -/
def Xe (K : En) (Z : WX) (W : Wd) (O : Addr → Prop) (σ : L2.St) (ρ : Rho) (H : Hp) (E : D → Be → Prop) : Prop :=
  ∀ e c' cls dx H', E e c' → LeX W.bs H H' → Stt K W O σ H' ρ c' → XcIs K (msk (W.N O) H') e cls dx → Z cls dx σ H'
theorem Xe.later {K : En} {Z : WX} {W : Wd} {O : Addr → Prop} {σ : L2.St} {ρ : Rho} {H H1 : Hp} {E : D → Be → Prop} (h : Xe K Z W O σ ρ H E) (l : LeX W.bs H H1) : Xe K Z W O σ ρ H1 E :=
  fun e c' cls dx H' p l' S x => h e c' cls dx H' p (l.trans l') S x
def rdE (K : En) (Z : WX) (m : ME) : TE := fun σ H Q => ∃ W O ρ c P E, Stt K W O σ H ρ c ∧ (m ρ c).aft P E ∧
  (∀ d c' v H', P d c' → LeX W.bs H H' → Stt K W O σ H' ρ c' → Dv K (msk (W.N O) H') v d → Q v H') ∧ Xe K Z W O σ ρ H E
def rdV (K : En) (Z : WX) (m : ME) : TE := fun σ H Q => ∃ W O ρ c P E, Stt K W O σ H ρ c ∧ (m ρ c).aft P E ∧
  (∀ d c' v H', P d c' → LeX W.bs H H' → Stt K W O σ H' ρ c' → Vw K W O H' v d → Q v H') ∧ Xe K Z W O σ ρ H E
/-- a new list -/
def rdF (K : En) (Z : WX) (m : MA) : TE := fun σ H Q => ∃ W O ρ c P E, Stt K W O σ H ρ c ∧ (m ρ c).aft P E ∧
  (∀ ds c' p vs H', P ds c' → LeX W.bs H H' → H p = none → ¬ W.N O p → Stt K W (fun b => O b ∨ b = p) σ H' ρ c' → H' p = some (.lst vs) → DvAll K (msk (W.N fun b => O b ∨ b = p) H') vs ds → Q (.ref p) H') ∧ Xe K Z W O σ ρ H E
def rdT (K : En) (Z : WX) (m : MT) : TT := fun σ H Q => ∃ W O ρ c P E, Stt K W O σ H ρ c ∧ (m ρ c).aft P E ∧
  (∀ b c' H', P b c' → LeX W.bs H H' → Stt K W O σ H' ρ c' → Q b H') ∧ Xe K Z W O σ ρ H E
def rdA (K : En) (Z : WX) (m : MA) : TA := fun σ H Q => ∃ W O ρ c P E, Stt K W O σ H ρ c ∧ (m ρ c).aft P E ∧
  (∀ ds c' vs H', P ds c' → LeX W.bs H H' → Stt K W O σ H' ρ c' → DvAll K (msk (W.N O) H') vs ds → Q vs H') ∧ Xe K Z W O σ ρ H E
/-- the lent objects behind a body -/
def BeOk (K : En) (W : Wd) (H' : Hp) (c' : Be) : Prop := c'.length = W.bs.length ∧ ∀ (j : Nat) (a : Addr) (ob : Ob), W.bs[j]? = some a → c'[j]? = some ob → ObIs K (msk W.M0 H') H' a ob
def RetOk (K : En) (W : Wd) (H' : Hp) (c' : Be) (v : V) (d : D) : Prop :=
  LeX W.bs W.H0 H' ∧ BeOk K W H' c' ∧ Dv K (msk W.M0 H') v d
structure Real (K : En) (Z : WX) (W : Wd) (O : Addr → Prop) (H : Hp) (C : Co) (D : Ends) : Prop where
  nx : ∀ O' ρ' c' σ' H', C.nx ρ' c' → Le (msk (W.N O) H) (msk (W.N O') H') → Stt K W O' σ' H' ρ' c' → D.nx σ' H'
  rt : ∀ d c' v H', C.rt d c' → RetOk K W H' c' v d → D.rt v H'
  bk : ∀ O' ρ' c' σ' H', C.bk ρ' c' → Le (msk (W.N O) H) (msk (W.N O') H') → Stt K W O' σ' H' ρ' c' → D.bk σ' H'
  ct : ∀ O' ρ' c' σ' H', C.ct ρ' c' → Le (msk (W.N O) H) (msk (W.N O') H') → Stt K W O' σ' H' ρ' c' → D.ct σ' H'
  ex : ∀ e O' ρ' c' σ' H' cls dx, C.ex e ρ' c' → Le (msk (W.N O) H) (msk (W.N O') H') → Stt K W O' σ' H' ρ' c' → XcIs K (msk (W.N O') H') e cls dx → Z cls dx σ' H'
def rdS (K : En) (Z : WX) (m : MS) : TS := fun D σ H => ∃ W O ρ c C, Stt K W O σ H ρ c ∧ (m ρ c).aft C ∧ Real K Z W O H C D
section
variable {K : En} {Z : WX} {W : Wd} {O O1 : Addr → Prop} {σ : L2.St} {H H1 : Hp} {ρ : Rho} {c c' : Be} {C : Co} {Dn : Ends}
theorem Real.later (R : Real K Z W O H C Dn) (e : Le (msk (W.N O) H) (msk (W.N O1) H1)) : Real K Z W O1 H1 C Dn :=
  ⟨fun O' ρ' c' σ' H' h l => R.nx O' ρ' c' σ' H' h (e.trans l), R.rt, fun O' ρ' c' σ' H' h l => R.bk O' ρ' c' σ' H' h (e.trans l), fun O' ρ' c' σ' H' h l => R.ct O' ρ' c' σ' H' h (e.trans l), fun e' O' ρ' c' σ' H' cls dx h l => R.ex e' O' ρ' c' σ' H' cls dx h (e.trans l)⟩
/-- an expression's exception leaves the statement -/
theorem Real.xe (R : Real K Z W O H C Dn) (S : Stt K W O σ H ρ c) : Xe K Z W O σ ρ H (fun e b => C.ex e ρ b) := fun e c' cls dx H' p l S' x => R.ex e O ρ c' σ H' cls dx p (lex_msk S l) S' x
theorem Vw.later {v : V} {d : D} (S : Stt K W O σ H ρ c) (h : Vw K W O H v d) (e : LeX W.bs H H1) : Vw K W O H1 v d := by
  rcases h with h | ⟨ds, p, vs, h1, h2, h3, h4, h5⟩
  · exact .inl (h.up (lex_msk S e))
  · exact .inr ⟨ds, p, vs, h1, h2, h3, e p _ (S.own_nb h3) h4, h5.up (lex_msk S e)⟩
/-- nothing is raised in a block's context -/
abbrev Z0 : WX := fun _ _ _ _ => False
end
section
variable {X : Cx} {e a b : Expr} {t t' : TE}
theorem _root_.L2.PE.imp (h : PE X e t) (i : ∀ σ H Q, t' σ H Q → t σ H Q) : PE X e t' := ⟨fun pins s σ H Q I q => h.run pins s σ H Q I (i σ H Q q)⟩
theorem _root_.L2.PT.imp {t t' : TT} (h : PT X e t) (i : ∀ σ H Q, t' σ H Q → t σ H Q) : PT X e t' := ⟨fun pins s σ H Q I q => h.run pins s σ H Q I (i σ H Q q)⟩
theorem _root_.L2.PW.imp {t t' : TT} (h : PW X e t) (i : ∀ σ H Q, t' σ H Q → t σ H Q) : PW X e t' := ⟨fun wh pins s σ H Q I q => h.run wh pins s σ H Q I (i σ H Q q)⟩
theorem _root_.L2.PA.imp {es : List Expr} {t t' : TA} (h : PA X es t) (i : ∀ σ H Q, t' σ H Q → t σ H Q) : PA X es t' := ⟨fun pos pins s σ H Q I q => h.run pos pins s σ H Q I (i σ H Q q)⟩
theorem _root_.L2.PS.imp {st : Stmt} {t t' : TS} (h : PS X st t) (i : ∀ D σ H, t' D σ H → t D σ H) : PS X st t' := ⟨fun pins s σ H D I q => h.run pins s σ H D I (i D σ H q)⟩
theorem _root_.L2.PSs.imp {st : List Stmt} {t t' : TS} (h : PSs X st t) (i : ∀ D σ H, t' D σ H → t D σ H) : PSs X st t' := ⟨fun pins s σ H D I q => h.run pins s σ H D I (i D σ H q)⟩
theorem _root_.L2.PTs.imp {ifs : List Expr} {t t' : TT} (h : PTs X ifs t) (i : ∀ σ H Q, t' σ H Q → t σ H Q) : PTs X ifs t' := ⟨fun pins s σ H Q I q => h.run pins s σ H Q I (i σ H Q q)⟩
end
def mC (d : D) : ME := fun _ c => .ok d c
def mVar (i : Nat) : ME := fun ρ c => match ρ[i]? with
  | some (.val d) => .ok d c
  | _ => .no
/-- a name's value as a view -/
def mVw (i : Nat) : ME := fun ρ c => match ρ[i]? with
  | some (.val d) => .ok d c
  | some (.own ds) => .ok (.lst ds) c
  | _ => .no
section
variable {X : Cx} {Z : WX} {e a b : Expr} {m ma mb : ME} {pos : Pos}
theorem e_v (h : PE X e (rdE X.en Z m)) : PE X e (rdV X.en Z m) := h.imp fun σ H Q ⟨W, O, ρ, c, P, E, S, hm, k, kx⟩ =>
  ⟨W, O, ρ, c, P, E, S, hm, fun d c' v H' p l S' r => k d c' v H' p l S' (.inl r), kx⟩
theorem e_leaf {v : V} {d : D} (h : PE X e (tC v)) (r : ∀ H, Dv X.en H v d) : PE X e (rdE X.en Z (mC d)) := h.imp fun σ H Q ⟨W, O, ρ, c, P, E, S, hm, k, kx⟩ =>
  k d c v H hm LeX.refl S (r _)
theorem e_int {i j} : PE X (.Constant (.int i) j pos) (rdE X.en Z (mC (.int i))) := e_leaf pe_int fun _ => .int i
theorem e_bl {b j} : PE X (.Constant (.bool b) j pos) (rdE X.en Z (mC (.bl b))) := e_leaf pe_bl fun _ => .bl b
theorem e_non {j} : PE X (.Constant .none j pos) (rdE X.en Z (mC .non)) := e_leaf pe_non fun _ => .non
theorem e_str {x j} : PE X (.Constant (.str x) j pos) (rdE X.en Z (mC (.str x))) := e_leaf pe_str fun _ => .str x
theorem e_var {i : Nat} (h : PE X e (tVar i)) : PE X e (rdE X.en Z (mVar i)) := h.imp fun σ H Q ⟨W, O, ρ, c, P, E, S, hm, k, kx⟩ => by
  unfold mVar at hm
  cases q : ρ[i]? with
  | none => rw [q] at hm; exact hm.elim
  | some s =>
    rw [q] at hm
    cases s with
    | val d =>
      obtain ⟨v, hv, r⟩ := S.val i d q
      exact ⟨v, hv, k d c v H hm LeX.refl S r⟩
    | _ => exact hm.elim
theorem v_var {i : Nat} (h : PE X e (tVar i)) : PE X e (rdV X.en Z (mVw i)) := h.imp fun σ H Q ⟨W, O, ρ, c, P, E, S, hm, k, kx⟩ => by
  unfold mVw at hm
  cases q : ρ[i]? with
  | none => rw [q] at hm; exact hm.elim
  | some s =>
    rw [q] at hm
    cases s with
    | val d =>
      obtain ⟨v, hv, r⟩ := S.val i d q
      exact ⟨v, hv, k d c v H hm LeX.refl S (.inl r)⟩
    | own ds =>
      obtain ⟨p, vs, hv, ho, hp, r⟩ := S.own i ds q
      exact ⟨_, hv, k _ c _ H hm LeX.refl S (.inr ⟨ds, p, vs, rfl, rfl, ho, hp, r⟩)⟩
    | _ => exact hm.elim
end
abbrev G2 := D → D → Option D
abbrev G1 := D → Option D
abbrev GL := List D → Option D
def RdOp (K : En) (r : R2) (g : G2) : Prop := ∀ (W : Wd) (O : Addr → Prop) (H : Hp) (x y : V) (d e z : D) (Q : VK), (∀ b, W.N O b → ∃ o, H b = some o) → Vw K W O H x d → Vw K W O H y e → g d e = some z →
  (∀ v H', Le H H' → Dv K (msk (W.N O) H') v z → Q v H') → r x y H Q
def RdUn (K : En) (r : V → Hp → VK → Prop) (g : G1) : Prop := ∀ (W : Wd) (O : Addr → Prop) (H : Hp) (x : V) (d z : D) (Q : VK), (∀ b, W.N O b → ∃ o, H b = some o) → Vw K W O H x d → g d = some z →
  (∀ v H', Le H H' → Dv K (msk (W.N O) H') v z → Q v H') → r x H Q
def VwAll (K : En) (W : Wd) (O : Addr → Prop) (H : Hp) : List V → List D → Prop
  | [], [] => True
  | v :: vs, d :: ds => Vw K W O H v d ∧ VwAll K W O H vs ds
  | _, _ => False
def RdCall (K : En) (r : List V → Hp → VK → Prop) (g : GL) : Prop := ∀ (W : Wd) (O : Addr → Prop) (H : Hp) (xs : List V) (ds : List D) (z : D) (Q : VK), (∀ b, W.N O b → ∃ o, H b = some o) → VwAll K W O H xs ds → g ds = some z →
  (∀ v H', Le H H' → Dv K (msk (W.N O) H') v z → Q v H') → r xs H Q
def mBin (g : G2) (ma mb : ME) : ME := fun ρ c => (ma ρ c).bind fun d c1 => (mb ρ c1).bind fun e c2 => .opt (g d e) c2
def mUn (g : G1) (ma : ME) : ME := fun ρ c => (ma ρ c).bind fun d c1 => .opt (g d) c1
theorem opt_some {α : Type} {r : Option α} {b : Be} {f : α → Be → Prop} {g : D → Be → Prop} (h : (Eo.opt r b).aft f g) : ∃ a, r = some a ∧ f a b := by
  cases r with
  | none => exact h.elim
  | some a => exact ⟨a, rfl, h⟩
section
variable {X : Cx} {Z : WX} {e a b : Expr} {m ma mb : ME} {pos : Pos} {r : R2} {g : G2}
theorem op_imp (hg : RdOp X.en r g) : ∀ σ H Q, rdE X.en Z (mBin g ma mb) σ H Q → tOp r (rdV X.en Z ma) (rdV X.en Z mb) σ H Q := fun σ H Q ⟨W, O, ρ, c, P, E, S, hm, k, kx⟩ =>
  ⟨W, O, ρ, c, _, E, S, (Eo.aft_bind ..).mp hm, fun d c1 v H1 hm1 l1 S1 r1 => ⟨W, O, ρ, c1, _, E, S1, (Eo.aft_bind ..).mp hm1, fun z c2 u H2 hm2 l2 S2 r2 => by
    obtain ⟨w, ew, pw⟩ := opt_some hm2
    exact hg W O H2 v u d z w _ S2.al (r1.later S1 l2) r2 ew fun y H3 l3 q => k w c2 y H3 pw ((l1.trans l2).trans l3.x) (S2.up l3) q, kx.later l1⟩, kx⟩
theorem e_bin {op : Operator} (ho : OpR X (binaryOp op) r) (hg : RdOp X.en r g) (ha : PE X a (rdV X.en Z ma)) (hb : PE X b (rdV X.en Z mb)) : PE X (.BinOp a op b pos) (rdE X.en Z (mBin g ma mb)) := (pe_op ho ha hb).imp (op_imp hg)
theorem e_cmp {op : CmpOp} (ho : OpR X (compareOp op) r) (hg : RdOp X.en r g) (ha : PE X a (rdV X.en Z ma)) (hb : PE X b (rdV X.en Z mb)) (hm : behindInMarks op b = false) : PE X (.Compare a [op] [b] pos) (rdE X.en Z (mBin g ma mb)) := (pe_cmpR ho ha hb hm).imp (op_imp hg)
def toB : D → Option Bool
  | .bl b => some b
  | _ => none
def mTest (m : ME) : MT := fun ρ c => (m ρ c).bind fun d c' => .opt (toB d) c'
theorem toB_some {d : D} {b : Bool} (h : toB d = some b) : d = .bl b := by
  cases d <;> simp [toB] at h
  subst h; rfl
theorem test_imp {t : TE} {m : ME} (h : ∀ σ H Q, rdE X.en Z m σ H Q → t σ H Q) : ∀ σ H Q, rdT X.en Z (mTest m) σ H Q → tTest t σ H Q := fun σ H Q ⟨W, O, ρ, c, P, E, S, hm, k, kx⟩ => by
  refine h σ H _ ⟨W, O, ρ, c, _, E, S, (Eo.aft_bind ..).mp hm, fun d c1 v H1 p l1 S1 r1 => ?_, kx⟩
  obtain ⟨b, eb, pb⟩ := opt_some p
  have := toB_some eb
  subst this
  cases r1
  exact ⟨b, rfl, k b c1 H1 pb l1 S1⟩
theorem t_cmp {op : CmpOp} (ho : OpR X (compareOp op) r) (hg : RdOp X.en r g) (ha : PE X a (rdV X.en Z ma)) (hb : PE X b (rdV X.en Z mb)) (hm : behindInMarks op b = false) : PT X (.Compare a [op] [b] pos) (rdT X.en Z (mTest (mBin g ma mb))) := (pt_cmpR ho ha hb hm).imp (test_imp (op_imp hg))
theorem t_val (h : PE X e (rdE X.en Z m)) (he : ∀ whole, isTrue e X.env whole = (do let v ← whole; standAt e.pos; holding [v] (truthy v)) := by intro _; rfl) : PT X e (rdT X.en Z (mTest m)) := (pt_val h he).imp (test_imp fun _ _ _ q => q)
theorem e_un {op : UnaryOp} {r : V → Hp → VK → Prop} {g : G1} (ho : UnR X (unaryOp op) r) (hg : RdUn X.en r g) (ha : PE X a (rdV X.en Z ma)) : PE X (.UnaryOp op a pos) (rdE X.en Z (mUn g ma)) := (pe_un ho ha).imp fun σ H Q ⟨W, O, ρ, c, P, E, S, hm, k, kx⟩ =>
  ⟨W, O, ρ, c, _, E, S, (Eo.aft_bind ..).mp hm, fun d c1 v H1 p l1 S1 r1 => by
    obtain ⟨w, ew, pw⟩ := opt_some p
    exact hg W O H1 v d w _ S1.al r1 ew fun u H2 l2 q => k w c1 u H2 pw (l1.trans l2.x) (S1.up l2) q, kx⟩
theorem e_ix (ho : IxR X r) (hg : RdOp X.en r g) (ha : PE X a (rdV X.en Z ma)) (hb : PE X b (rdV X.en Z mb)) (hs : PlainIx b := by exact fun _ _ => rfl) : PE X (.Subscript a b pos) (rdE X.en Z (mBin g ma mb)) := (pe_ix ho ha hb hs).imp (op_imp hg)
end
def mChain (g g' : G2) (ma mb mc : ME) : ME := fun ρ c => (ma ρ c).bind fun d c1 => (mb ρ c1).bind fun e c2 => (Eo.opt (g d e) c2).bind fun z c3 => match z with
  | .bl true => (mc ρ c3).bind fun f c4 => .opt (g' e f) c4
  | .bl false => .ok (.bl false) c3
  | _ => .no
def mAnd (t u : MT) : MT := fun ρ c => (t ρ c).bind fun b c1 => match b with
  | true => u ρ c1
  | false => .ok false c1
def mOr (t u : MT) : MT := fun ρ c => (t ρ c).bind fun b c1 => match b with
  | true => .ok true c1
  | false => u ρ c1
def mNot (t : MT) : MT := fun ρ c => (t ρ c).bind fun b c1 => .ok (!b) c1
def mIf (t : MT) (ma mb : ME) : ME := fun ρ c => (t ρ c).bind fun b c1 => match b with
  | true => ma ρ c1
  | false => mb ρ c1
def mAndV (ma mb : ME) : ME := fun ρ c => (ma ρ c).bind fun d c1 => match d with
  | .bl true => mb ρ c1
  | .bl false => .ok (.bl false) c1
  | _ => .no
def mOrV (ma mb : ME) : ME := fun ρ c => (ma ρ c).bind fun d c1 => match d with
  | .bl false => mb ρ c1
  | .bl true => .ok (.bl true) c1
  | _ => .no
def gNotB : G1 := fun d => match d with
  | .bl b => some (.bl (!b))
  | _ => none
def mNotV (ma : ME) : ME := fun ρ c => (ma ρ c).bind fun d c1 => .opt (gNotB d) c1
section
variable {X : Cx} {Z : WX} {e a b c : Expr} {m ma mb mc : ME} {t u : MT} {pos : Pos} {rest : List Expr}
theorem w_and1 (ha : PT X a (rdT X.en Z t)) : PW X (.BoolOp .And [a] pos) (rdT X.en Z t) := pw_and1 ha
theorem w_or1 (ha : PT X a (rdT X.en Z t)) : PW X (.BoolOp .Or [a] pos) (rdT X.en Z t) := pw_or1 ha
theorem w_and (ha : PT X a (rdT X.en Z t)) (hb : PW X (.BoolOp .And (b :: rest) pos) (rdT X.en Z u)) : PW X (.BoolOp .And (a :: b :: rest) pos) (rdT X.en Z (mAnd t u)) := L2.PW.imp (pw_and ha hb) fun σ H Q ⟨W, O, ρ, c, P, E, S, hm, k, kx⟩ =>
  ⟨W, O, ρ, c, _, E, S, (Eo.aft_bind ..).mp hm, fun b c1 H1 p l1 S1 => by
    cases b with
    | true => exact ⟨W, O, ρ, c1, P, E, S1, p, fun b' c2 H2 p2 l2 S2 => k b' c2 H2 p2 (l1.trans l2) S2, kx.later l1⟩
    | false => exact k false c1 H1 p l1 S1, kx⟩
theorem w_or (ha : PT X a (rdT X.en Z t)) (hb : PW X (.BoolOp .Or (b :: rest) pos) (rdT X.en Z u)) : PW X (.BoolOp .Or (a :: b :: rest) pos) (rdT X.en Z (mOr t u)) := L2.PW.imp (pw_or ha hb) fun σ H Q ⟨W, O, ρ, c, P, E, S, hm, k, kx⟩ =>
  ⟨W, O, ρ, c, _, E, S, (Eo.aft_bind ..).mp hm, fun b c1 H1 p l1 S1 => by
    cases b with
    | false => exact ⟨W, O, ρ, c1, P, E, S1, p, fun b' c2 H2 p2 l2 S2 => k b' c2 H2 p2 (l1.trans l2) S2, kx.later l1⟩
    | true => exact k true c1 H1 p l1 S1, kx⟩
theorem t_not (ha : PT X a (rdT X.en Z t)) : PT X (.UnaryOp .Not a pos) (rdT X.en Z (mNot t)) := (pt_not ha).imp fun σ H Q ⟨W, O, ρ, c, P, E, S, hm, k, kx⟩ =>
  ⟨W, O, ρ, c, _, E, S, (Eo.aft_bind ..).mp hm, fun b c1 H1 p l1 S1 => k (!b) c1 H1 p l1 S1, kx⟩
theorem e_if (hc : PT X c (rdT X.en Z t)) (ha : PE X a (rdE X.en Z ma)) (hb : PE X b (rdE X.en Z mb)) : PE X (.IfExp c a b pos) (rdE X.en Z (mIf t ma mb)) := (pe_ifExp hc ha hb).imp fun σ H Q ⟨W, O, ρ, c, P, E, S, hm, k, kx⟩ =>
  ⟨W, O, ρ, c, _, E, S, (Eo.aft_bind ..).mp hm, fun b c1 H1 p l1 S1 => by
    cases b with
    | true => exact ⟨W, O, ρ, c1, P, E, S1, p, fun d c2 v H2 p2 l2 S2 => k d c2 v H2 p2 (l1.trans l2) S2, kx.later l1⟩
    | false => exact ⟨W, O, ρ, c1, P, E, S1, p, fun d c2 v H2 p2 l2 S2 => k d c2 v H2 p2 (l1.trans l2) S2, kx.later l1⟩, kx⟩
theorem e_one {op} (h : PE X a (rdE X.en Z m)) : PE X (.BoolOp op [a] pos) (rdE X.en Z m) := pe_one h
theorem e_and (ha : PE X a (rdE X.en Z ma)) (hb : PE X (.BoolOp .And (b :: rest) pos) (rdE X.en Z mb)) : PE X (.BoolOp .And (a :: b :: rest) pos) (rdE X.en Z (mAndV ma mb)) := (pe_and ha hb).imp fun σ H Q ⟨W, O, ρ, c, P, E, S, hm, k, kx⟩ =>
  ⟨W, O, ρ, c, _, E, S, (Eo.aft_bind ..).mp hm, fun d c1 v H1 p l1 S1 r1 => by
    cases d with
    | bl b =>
      cases r1
      refine ⟨b, rfl, ?_⟩
      cases b with
      | true => exact ⟨W, O, ρ, c1, P, E, S1, p, fun d c2 v H2 p2 l2 S2 => k d c2 v H2 p2 (l1.trans l2) S2, kx.later l1⟩
      | false => exact k _ c1 _ H1 p l1 S1 (.bl false)
    | _ => exact p.elim, kx⟩
theorem e_or (ha : PE X a (rdE X.en Z ma)) (hb : PE X (.BoolOp .Or (b :: rest) pos) (rdE X.en Z mb)) : PE X (.BoolOp .Or (a :: b :: rest) pos) (rdE X.en Z (mOrV ma mb)) := (pe_or ha hb).imp fun σ H Q ⟨W, O, ρ, c, P, E, S, hm, k, kx⟩ =>
  ⟨W, O, ρ, c, _, E, S, (Eo.aft_bind ..).mp hm, fun d c1 v H1 p l1 S1 r1 => by
    cases d with
    | bl b =>
      cases r1
      refine ⟨b, rfl, ?_⟩
      cases b with
      | false => exact ⟨W, O, ρ, c1, P, E, S1, p, fun d c2 v H2 p2 l2 S2 => k d c2 v H2 p2 (l1.trans l2) S2, kx.later l1⟩
      | true => exact k _ c1 _ H1 p l1 S1 (.bl true)
    | _ => exact p.elim, kx⟩
theorem e_not (ha : PE X a (rdE X.en Z ma)) : PE X (.UnaryOp .Not a pos) (rdE X.en Z (mNotV ma)) := (pe_not ha).imp fun σ H Q ⟨W, O, ρ, c, P, E, S, hm, k, kx⟩ =>
  ⟨W, O, ρ, c, _, E, S, (Eo.aft_bind ..).mp hm, fun d c1 v H1 p l1 S1 r1 => by
    cases d with
    | bl b => cases r1; exact ⟨b, rfl, k _ c1 _ H1 p l1 S1 (.bl _)⟩
    | _ => exact p.elim, kx⟩
theorem chain_imp {r r' : R2} {g g' : G2} (hg : RdOp X.en r g) (hg' : RdOp X.en r' g') : ∀ σ H Q, rdE X.en Z (mChain g g' ma mb mc) σ H Q → tChain r r' (rdV X.en Z ma) (rdV X.en Z mb) (rdV X.en Z mc) σ H Q := fun σ H Q ⟨W, O, ρ, c, P, E, S, hm, k, kx⟩ =>
  ⟨W, O, ρ, c, _, E, S, (Eo.aft_bind ..).mp hm, fun d c1 v H1 hm1 l1 S1 r1 => ⟨W, O, ρ, c1, _, E, S1, (Eo.aft_bind ..).mp hm1, fun z c2 u H2 hm2 l2 S2 r2 => by
    obtain ⟨w, ew, pw⟩ := opt_some ((Eo.aft_bind ..).mp hm2)
    refine hg W O H2 v u d z w _ S2.al (r1.later S1 l2) r2 ew fun y H3 l3 q => ?_
    cases w with
    | bl b =>
      cases q
      refine ⟨b, rfl, ?_⟩
      have S3 := S2.up l3
      cases b with
      | true => exact ⟨W, O, ρ, c2, _, E, S3, (Eo.aft_bind ..).mp pw, fun f c3 w4 H4 p4 l4 S4 r4 => by
          obtain ⟨w5, ew5, pw5⟩ := opt_some p4
          exact hg' W O H4 u w4 z f w5 _ S4.al (r2.later S2 (l3.x.trans l4)) r4 ew5 fun w6 H5 l5 q5 => k w5 c3 w6 H5 pw5 ((((l1.trans l2).trans l3.x).trans l4).trans l5.x) (S4.up l5) q5, kx.later ((l1.trans l2).trans l3.x)⟩
      | false => exact k _ c2 _ H3 pw ((l1.trans l2).trans l3.x) S3 (.bl false)
    | _ => exact pw.elim, kx.later l1⟩, kx⟩
theorem e_chain {op op' : CmpOp} {r r' : R2} {g g' : G2} (ho : OpR X (compareOp op) r) (ho' : OpR X (compareOp op') r') (hg : RdOp X.en r g) (hg' : RdOp X.en r' g') (ha : PE X a (rdV X.en Z ma)) (hb : PE X b (rdV X.en Z mb)) (hc : PE X c (rdV X.en Z mc))
    (hm : lastMarks [op, op'] [b, c] = false := by with_unfolding_all rfl) : PE X (.Compare a [op, op'] [b, c] pos) (rdE X.en Z (mChain g g' ma mb mc)) := (pe_chain ho ho' ha hb hc hm).imp (chain_imp hg hg')
theorem t_chain {op op' : CmpOp} {r r' : R2} {g g' : G2} (ho : OpR X (compareOp op) r) (ho' : OpR X (compareOp op') r') (hg : RdOp X.en r g) (hg' : RdOp X.en r' g') (ha : PE X a (rdV X.en Z ma)) (hb : PE X b (rdV X.en Z mb)) (hc : PE X c (rdV X.en Z mc))
    (hm : lastMarks [op, op'] [b, c] = false := by with_unfolding_all rfl) : PT X (.Compare a [op, op'] [b, c] pos) (rdT X.en Z (mTest (mChain g g' ma mb mc))) := (pt_chain ho ho' ha hb hc hm).imp (test_imp (chain_imp hg hg'))
end
end GX
namespace GX
open PySem PySem.Spec PyProof.Rows L2
/-- lent objects at their places -/
structure BeIs (K : En) (Hm H : Hp) (as : List Addr) (bs : Be) : Prop where
  len : bs.length = as.length
  get : ∀ (j : Nat) (a : Addr) (ob : Ob), as[j]? = some a → bs[j]? = some ob → ObIs K Hm H a ob
theorem BeIs.up {K : En} {Hm Hm' H H' : Hp} {as : List Addr} {bs : Be} (h : BeIs K Hm H as bs) (e : Le Hm Hm') (f : ∀ a ∈ as, ∀ o, H a = some o → H' a = some o) : BeIs K Hm' H' as bs :=
  ⟨h.len, fun j a ob h1 h2 => (h.get j a ob h1 h2).up e fun o q => f a (List.mem_of_getElem? h1) o q⟩
section
variable {K : En} {W : Wd} {O O' : Addr → Prop} {σ : L2.St} {H H' : Hp} {ρ : Rho} {c c' : Be}
theorem Stt.be (S : Stt K W O σ H ρ c) : BeIs K (msk (W.N O) H) H W.bs c := ⟨S.bl, S.bo⟩
/-- the state behind a change of the heap -/
theorem Stt.move (S : Stt K W O σ H ρ c) (ex : LeX W.bs H H') (sub : ∀ b, O b → O' b) (new : ∀ b, O' b → W.H0 b = none ∧ ∃ o, H' b = some o)
    (le : Le (msk (W.N O) H) (msk (W.N O') H')) (bo : BeIs K (msk (W.N O') H') H' W.bs c') : Stt K W O' σ H' ρ c' where
  ex := S.ex.trans ex
  m0 := S.m0
  m1 := fun b h => by
    obtain ⟨o, q⟩ := S.m1 b h
    by_cases e : b ∈ W.bs
    · obtain ⟨j, hj, e⟩ := List.getElem_of_mem e
      have e1 : W.bs[j]? = some b := by rw [List.getElem?_eq_getElem hj, e]
      have e2 : c'[j]? = some (c'[j]'(by rw [bo.len]; exact hj)) := List.getElem?_eq_getElem _
      exact (bo.get j b _ e1 e2).there
    · exact ⟨o, ex b o e q⟩
  oo := new
  bm := S.bm
  bn := S.bn
  bl := bo.len
  bo := bo.get
  len := S.len
  val := fun i d h => let ⟨v, q, r⟩ := S.val i d h; ⟨v, q, r.up le⟩
  own := fun i ds h => let ⟨p, vs, q, r, t, u⟩ := S.own i ds h; ⟨p, vs, q, sub p r, ex p _ (S.own_nb r) t, u.up le⟩
  inj := S.inj
  sto := S.sto
theorem Stt.n0 (S : Stt K W O σ H ρ c) {p : Addr} (hp : H p = none) : ¬ W.N O p ∧ W.H0 p = none := by
  have n : ¬ W.N O p := fun h => by
    obtain ⟨o, ho⟩ := S.al p h
    rw [hp] at ho; cases ho
  refine ⟨n, ?_⟩
  cases q : W.H0 p with
  | none => rfl
  | some u =>
    exfalso
    have := S.ex p u (S.nb n) q
    rw [hp] at this; cases this
theorem msk_new {K : En} {N : Addr → Prop} {H : Hp} {q : Addr} {o : HO} {O : Addr → Prop} {W : Wd} (hq : H q = none) : Le (msk (W.N O) H) (msk (W.N fun b => O b ∨ b = q) (upd H q o)) := msk_up (fun b o _ h => upd_le hq b o h) fun b o h nb nb' => by
  rcases nb' with h' | h' | h'
  · exact nb (.inl h')
  · exact nb (.inr h')
  · rw [h', hq] at h; cases h
/-- a new object at p, as an own one -/
theorem Stt.fresh (S : Stt K W O σ H ρ c) {p : Addr} {o : HO} (hp : H p = none) : Stt K W (fun b => O b ∨ b = p) σ (upd H p o) ρ c ∧ ¬ W.N O p := by
  obtain ⟨n, n0⟩ := S.n0 hp
  have le := msk_new (K := K) (N := O) (O := O) (W := W) (o := o) hp
  refine ⟨S.move (upd_le hp).x (fun b h => .inl h) (fun b h => ?_) le (S.be.up le fun a _ o q => upd_le hp a o q), n⟩
  rcases h with h | h
  · obtain ⟨o, q⟩ := (S.oo b h).2
    exact ⟨(S.oo b h).1, o, upd_le hp b o q⟩
  · subst h; exact ⟨n0, _, upd_same⟩
/-- what is new behind was not there ahead -/
theorem back_none {H : Hp} (S : Stt K W O σ H' ρ c) (l : LeX W.bs H H') {p : Addr} (hp : H' p = none) : H p = none := by
  cases q : H p with
  | none => rfl
  | some u =>
    exfalso
    by_cases e : p ∈ W.bs
    · obtain ⟨o, ho⟩ := S.m1 p (S.bm p e)
      rw [hp] at ho; cases ho
    · have := l p u e q
      rw [hp] at this; cases this
/-- own p is let go -/
theorem Stt.let_ {p : Addr} (S0 : Stt K W O σ H ρ c) (l : LeX W.bs H H') (S : Stt K W (fun b => O b ∨ b = p) σ H' ρ c') (n : ¬ W.N O p) : Stt K W O σ H' ρ c' := by
  have le2 : Le (msk (W.N fun b => O b ∨ b = p) H') (msk (W.N O) H') := msk_up (fun _ _ _ h => h) fun b o h nb nb' => nb (by
    rcases nb' with h' | h'
    · exact .inl h'
    · exact .inr (.inl h'))
  exact S0.move l (fun b h => h) (fun b h => ⟨(S0.oo b h).1, (S.oo b (.inl h)).2⟩) (lex_msk S0 l) (S.be.up le2 fun _ _ _ q => q)
end
def mNil : MA := fun _ c => .ok [] c
def mCons (m : ME) (r : MA) : MA := fun ρ c => (m ρ c).bind fun d c1 => (r ρ c1).bind fun ds c2 => .ok (d :: ds) c2
/-- arguments as views -/
def rdW (K : En) (Z : WX) (m : MA) : TA := fun σ H Q => ∃ W O ρ c P E, Stt K W O σ H ρ c ∧ (m ρ c).aft P E ∧
  (∀ ds c' vs H', P ds c' → LeX W.bs H H' → Stt K W O σ H' ρ c' → VwAll K W O H' vs ds → Q vs H') ∧ Xe K Z W O σ ρ H E
section
variable {X : Cx} {Z : WX} {e : Expr} {es : List Expr} {m : ME} {mr mA : MA} {pos : Pos}
theorem a_nil : PA X [] (rdA X.en Z mNil) := pa_nil.imp fun σ H Q ⟨W, O, ρ, c, P, E, S, hm, k, kx⟩ => k [] c [] H hm LeX.refl S .nil
theorem a_cons (ha : PE X e (rdE X.en Z m)) (hr : PA X es (rdA X.en Z mr)) (hs : starEach (e :: es) X.env = (false, eval e X.env) :: starEach es X.env := by rfl) : PA X (e :: es) (rdA X.en Z (mCons m mr)) :=
  (pa_cons ha hr hs).imp fun σ H Q ⟨W, O, ρ, c, P, E, S, hm, k, kx⟩ => ⟨W, O, ρ, c, _, E, S, (Eo.aft_bind ..).mp hm, fun d c1 v H1 p1 l1 S1 r1 => ⟨W, O, ρ, c1, _, E, S1, (Eo.aft_bind ..).mp p1, fun ds c2 vs H2 p2 l2 S2 r2 =>
    k (d :: ds) c2 (v :: vs) H2 p2 (l1.trans l2) S2 (.cons (r1.up (lex_msk S1 l2)) r2), kx.later l1⟩, kx⟩
theorem VwAll.later {K : En} {W : Wd} {O : Addr → Prop} {σ : L2.St} {H H1 : Hp} {ρ : Rho} {c : Be} (S : Stt K W O σ H ρ c) (e : LeX W.bs H H1) : ∀ {vs : List V} {ds : List D}, VwAll K W O H vs ds → VwAll K W O H1 vs ds
  | [], [], _ => True.intro
  | v :: vs, d :: ds, h => ⟨h.1.later S e, VwAll.later S e h.2⟩
  | [], _ :: _, h => h.elim
  | _ :: _, [], h => h.elim
theorem w_nil : PA X [] (rdW X.en Z mNil) := pa_nil.imp fun σ H Q ⟨W, O, ρ, c, P, E, S, hm, k, kx⟩ => k [] c [] H hm LeX.refl S True.intro
theorem w_cons (ha : PE X e (rdV X.en Z m)) (hr : PA X es (rdW X.en Z mr)) (hs : starEach (e :: es) X.env = (false, eval e X.env) :: starEach es X.env := by rfl) : PA X (e :: es) (rdW X.en Z (mCons m mr)) :=
  (pa_cons ha hr hs).imp fun σ H Q ⟨W, O, ρ, c, P, E, S, hm, k, kx⟩ => ⟨W, O, ρ, c, _, E, S, (Eo.aft_bind ..).mp hm, fun d c1 v H1 p1 l1 S1 r1 => ⟨W, O, ρ, c1, _, E, S1, (Eo.aft_bind ..).mp p1, fun ds c2 vs H2 p2 l2 S2 r2 =>
    k (d :: ds) c2 (v :: vs) H2 p2 (l1.trans l2) S2 ⟨r1.later S1 l2, r2⟩, kx.later l1⟩, kx⟩
end
/-- the lists of at most so many items -/
def few (ds : List D) : Option (List D) := if ds.length ≤ 16777216 then some ds else none
theorem few_some {ds es : List D} (h : few ds = some es) : es = ds ∧ ds.length ≤ 16777216 := by
  unfold few at h
  split at h
  · cases h; exact ⟨rfl, by assumption⟩
  · cases h
def mTup (m : MA) : ME := fun ρ c => (m ρ c).bind fun ds c' => (Eo.opt (few ds) c').bind fun es c2 => .ok (.tup es) c2
def mNew (m : MA) : MA := fun ρ c => (m ρ c).bind fun ds c' => .opt (few ds) c'
def mOfL (m : MA) : ME := fun ρ c => (m ρ c).bind fun ds c' => .ok (.lst ds) c'
theorem line_eq : sizeLine = 16777216 := sizeLine_eq
section
variable {X : Cx} {Z : WX} {e : Expr} {es : List Expr} {m : ME} {mr mA : MA} {pos : Pos}
theorem e_tup {x1} (h : PA X es (rdA X.en Z mA)) : PE X (.Tuple es x1 pos) (rdE X.en Z (mTup mA)) := (pe_tup h).imp fun σ H Q ⟨W, O, ρ, c, P, E, S, hm, k, kx⟩ =>
  ⟨W, O, ρ, c, _, E, S, (Eo.aft_bind ..).mp hm, fun ds c1 vs H1 p1 l1 S1 r1 => by
    obtain ⟨es', e1, p2⟩ := opt_some ((Eo.aft_bind ..).mp p1)
    obtain ⟨rfl, hl⟩ := few_some e1
    exact ⟨by rw [line_eq, r1.length]; exact hl, fun p hp =>
      k (.tup _) c1 (.ref p) _ p2 (l1.trans (upd_le hp).x) (S1.up (upd_le hp)) (.tup (SqT.of (by rw [msk_of (S1.fresh (o := .tup vs) hp).2, upd_same])) (r1.up (msk_mono (upd_le hp))))⟩, kx⟩
theorem f_lst (h : PA X es (rdA X.en Z mA)) : PE X (.List es pos) (rdF X.en Z (mNew mA)) := (pe_lst h).imp fun σ H Q ⟨W, O, ρ, c, P, E, S, hm, k, kx⟩ =>
  ⟨W, O, ρ, c, _, E, S, (Eo.aft_bind ..).mp hm, fun ds c1 vs H1 p1 l1 S1 r1 => by
    obtain ⟨es', e1, p2⟩ := opt_some p1
    obtain ⟨rfl, hl⟩ := few_some e1
    refine ⟨by rw [line_eq, r1.length]; exact hl, fun p hp => ?_⟩
    obtain ⟨S2, n⟩ := S1.fresh (o := .lst vs) hp
    exact k _ c1 p vs _ p2 (l1.trans (upd_le hp).x) (back_none S1 l1 hp) n S2 upd_same (r1.up (msk_new (K := X.en) (N := O) hp)), kx⟩
theorem e_f (h : PE X e (rdF X.en Z mA)) : PE X e (rdE X.en Z (mOfL mA)) := h.imp fun σ H Q ⟨W, O, ρ, c, P, E, S, hm, k, kx⟩ =>
  ⟨W, O, ρ, c, _, E, S, (Eo.aft_bind ..).mp hm, fun ds c1 p vs H1 p1 l1 n0 n S1 hp r1 => k (.lst ds) c1 (.ref p) H1 p1 l1 (S.let_ l1 S1 n) (.lst (LsK.of (by rw [msk_of n]; exact hp)) (r1.up (msk_up (fun _ _ _ h => h) fun b o h nb nb' => nb (by
    rcases nb' with h' | h'
    · exact .inl h'
    · exact .inr (.inl h'))))), kx⟩
end
abbrev FP := List D → Ro D
abbrev FN := Be → List D → Eo D
/-- a pure def's promise -/
def spP (K : En) (F : FP) : Sp := fun vs H Q E => ∃ (M : Addr → Prop) (ds : List D), (∀ b, M b → ∃ o, H b = some o) ∧ DvAll K (msk M H) vs ds ∧
  (F ds).aft (fun d => ∀ v H', Le H H' → Dv K (msk M H') v d → Q v H') (fun e => ∀ cls dx H', Le H H' → XcIs K (msk M H') e cls dx → E cls dx H')
def mCall (F : FP) (m : MA) : ME := fun ρ c => (m ρ c).bind fun ds c' => .lift (F ds) c'
section
variable {X : Cx} {Z : WX} {k : Nat} {f : Addr} {fd : FuncData} {ps : List Str} {x : Str} {p pos : Pos} {e : Expr} {es : List Expr} {m : MA} {F : FP} {G : FN}
theorem pure_imp : ∀ σ H Q, rdE X.en Z (mCall F m) σ H Q → tCallS (spP X.en F) (WE Z) (rdA X.en Z m) σ H Q := fun σ H Q ⟨W, O, ρ, c, P, E, S, hm, kk, kx⟩ =>
  ⟨W, O, ρ, c, _, E, S, (Eo.aft_bind ..).mp hm, fun ds c1 vs H1 p1 l1 S1 r1 => ⟨W.N O, ds, S1.al, r1, by
    have p2 := (Eo.aft_lift ..).mp p1
    cases q : F ds with
    | ok d => rw [q] at p2; exact fun v H2 l2 r2 => kk d c1 v H2 p2 (l1.trans l2.x) (S1.up l2) r2
    | ex e => rw [q] at p2; exact fun cls dx H2 l2 x2 => kx e c1 cls dx H2 p2 (l1.trans l2.x) (S1.up l2) x2
    | no => rw [q] at p2; exact p2⟩, kx⟩
theorem BeIs.one {K : En} {Hm H : Hp} {a : Addr} {ob : Ob} (h : BeIs K Hm H [a] [ob]) : ObIs K Hm H a ob := h.get 0 a ob rfl rfl
end
def mCB (g : GL) (m : MA) : ME := fun ρ c => (m ρ c).bind fun ds c' => .opt (g ds) c'
section
variable {X : Cx} {Z : WX} {x : Str} {p pos : Pos} {e : Expr} {es : List Expr} {m : MA} {r : List V → Hp → VK → Prop} {g : GL} {id T : String}
theorem cb_imp (hg : RdCall X.en r g) : ∀ σ H Q, rdE X.en Z (mCB g m) σ H Q → tCB r (rdW X.en Z m) σ H Q := fun σ H Q ⟨W, O, ρ, c, P, E, S, hm, k, kx⟩ =>
  ⟨W, O, ρ, c, _, E, S, (Eo.aft_bind ..).mp hm, fun ds c1 vs H1 p1 l1 S1 r1 => by
    obtain ⟨w, ew, pw⟩ := opt_some p1
    exact hg W O H1 vs ds w _ S1.al r1 ew fun v H2 l2 q => k w c1 v H2 pw (l1.trans l2.x) (S1.up l2) q, kx⟩
theorem e_callB (hc : CallR X (.builtin id) r) (hG : RdCall X.en r g) (hg : Gl X x) (hm : X.mg x = none) (hv : bootBuiltins x = some (.builtin id)) (ha : PA X (e :: es) (rdW X.en Z m)) (hn : x ≠ "__name__" := by decide) (hdb : (x == ("__debug__" : Str)) = false := by decide)
    (he : starEach (e :: es) X.env = (false, eval e X.env) :: starEach es X.env := by rfl) (hpl : (backTo pos (starEach es X.env)).any (·.1) = false := by rfl) : PE X (.Call (.Name x p) (e :: es) [] pos) (rdE X.en Z (mCB g m)) :=
  (pe_callB hc hg hm hv ha hn hdb he hpl).imp (cb_imp hG)
theorem e_callTy (hc : CallR X (.type T) r) (hG : RdCall X.en r g) (hg : Gl X x) (hm : X.mg x = none) (hv : bootBuiltins x = some (.type T)) (ha : PA X (e :: es) (rdW X.en Z m)) (hn : x ≠ "__name__" := by decide) (hdb : (x == ("__debug__" : Str)) = false := by decide)
    (he : starEach (e :: es) X.env = (false, eval e X.env) :: starEach es X.env := by rfl) (hpl : (backTo pos (starEach es X.env)).any (·.1) = false := by rfl) : PE X (.Call (.Name x p) (e :: es) [] pos) (rdE X.en Z (mCB g m)) :=
  (pe_callTy hc hg hm hv ha hn hdb he hpl).imp (cb_imp hG)
end
abbrev MO := Rho → Be → Eo (Option Int)
def rdO (K : En) (Z : WX) (m : MO) : TO := fun σ H Q => ∃ W O ρ c P E, Stt K W O σ H ρ c ∧ (m ρ c).aft P E ∧ (∀ o c' H', P o c' → LeX W.bs H H' → Stt K W O σ H' ρ c' → Q o H') ∧ Xe K Z W O σ ρ H E
def toI : D → Option Int
  | .int i => some i
  | _ => none
def toL : D → Option (List D)
  | .lst ds => some ds
  | _ => none
def toT : D → Option (List D)
  | .tup ds => some ds
  | _ => none
theorem toI_some {d : D} {i : Int} (h : toI d = some i) : d = .int i := by
  cases d <;> simp [toI] at h
  subst h; rfl
theorem toL_some {d : D} {i : List D} (h : toL d = some i) : d = .lst i := by
  cases d <;> simp [toL] at h
  subst h; rfl
theorem toT_some {d : D} {i : List D} (h : toT d = some i) : d = .tup i := by
  cases d <;> simp [toT] at h
  subst h; rfl
def mNo : MO := fun _ c => .ok none c
def mSome (m : ME) : MO := fun ρ c => (m ρ c).bind fun d c' => (Eo.opt (toI d) c').bind fun i c2 => .ok (some i) c2
def cutD (ds : List D) (lo hi : Option Int) : List D := (ds.drop (HT.sIx ds.length 0 lo)).take (HT.sIx ds.length ds.length hi - HT.sIx ds.length 0 lo)
def mCut (m : ME) (ml mh : MO) : MA := fun ρ c => (m ρ c).bind fun d c1 => (ml ρ c1).bind fun l c2 => (mh ρ c2).bind fun h c3 => (Eo.opt (toL d) c3).bind fun ds c4 => .ok (cutD ds l h) c4
theorem DvAll.cut {K : En} {H : Hp} {vs : List V} {ds : List D} (h : DvAll K H vs ds) (lo hi : Option Int) : DvAll K H (cutV vs lo hi) (cutD ds lo hi) := by
  unfold cutV cutD
  rw [h.length]
  exact (h.drop _).take _
/-- a view of a list -/
theorem Vw.listK {K : En} {W : Wd} {O : Addr → Prop} {H : Hp} {v : V} {ds : List D} (h : Vw K W O H v (.lst ds)) : ∃ p vs, v = .ref p ∧ LsK K H p vs ∧ DvAll K (msk (W.N O) H) vs ds := by
  rcases h with h | ⟨es, p, vs, h1, h2, h3, h4, h5⟩
  · cases h with
    | lst hs ha => exact ⟨_, _, rfl, lsk_mono msk_le hs, ha⟩
  · cases h1
    exact ⟨p, vs, h2, LsK.of h4, h5⟩
theorem Vw.list {K : En} {W : Wd} {O : Addr → Prop} {H : Hp} {v : V} {ds : List D} (h : Vw K W O H v (.lst ds)) : ∃ p vs, v = .ref p ∧ SqL K.K H p vs ∧ DvAll K (msk (W.N O) H) vs ds := by
  obtain ⟨p, vs, h1, h2, h3⟩ := h.listK
  exact ⟨p, vs, h1, h2.sq, h3⟩
/-- any view, in the whole heap -/
theorem Vw.dv {K : En} {W : Wd} {O : Addr → Prop} {H : Hp} {v : V} {d : D} (h : Vw K W O H v d) : Dv K H v d := by
  rcases h with h | ⟨es, p, vs, h1, h2, h3, h4, h5⟩
  · exact h.up msk_le
  · subst h1; subst h2
    exact .lst (LsK.of h4) (h5.up msk_le)
section
variable {X : Cx} {Z : WX} {e a b : Expr} {m ma : ME} {ml mh : MO} {lo hi : Option Expr} {pos p2 : Pos}
theorem o_no : PO X none (rdO X.en Z mNo) := ⟨fun pins s σ H Q I ⟨W, O, ρ, c, P, E, S, hm, k, kx⟩ => po_none.run pins s σ H Q I (k none c H hm LeX.refl S)⟩
theorem o_some (h : PE X e (rdE X.en Z m)) : PO X (some e) (rdO X.en Z (mSome m)) := ⟨fun pins s σ H Q I ⟨W, O, ρ, c, P, E, S, hm, k, kx⟩ => (po_some h).run pins s σ H Q I ⟨W, O, ρ, c, _, E, S, (Eo.aft_bind ..).mp hm, fun d c1 v H1 p1 l1 S1 r1 => by
  obtain ⟨i, ei, p2⟩ := opt_some ((Eo.aft_bind ..).mp p1)
  have := toI_some ei
  subst this
  cases r1
  exact ⟨i, rfl, k (some i) c1 H1 p2 l1 S1⟩, kx⟩⟩
theorem f_cut (h : PE X a (rdV X.en Z ma)) (hl : PO X lo (rdO X.en Z ml)) (hh : PO X hi (rdO X.en Z mh)) : PE X (.Subscript a (.Slice lo hi none p2) pos) (rdF X.en Z (mCut ma ml mh)) := (pe_slice sl_list h hl hh).imp fun σ H Q ⟨W, O, ρ, c, P, E, S, hm, k, kx⟩ =>
  ⟨W, O, ρ, c, _, E, S, (Eo.aft_bind ..).mp hm, fun d c1 v H1 p1 l1 S1 r1 => ⟨W, O, ρ, c1, _, E, S1, (Eo.aft_bind ..).mp p1, fun l c2 H2 p2 l2 S2 => ⟨W, O, ρ, c2, _, E, S2, (Eo.aft_bind ..).mp p2, fun h c3 H3 p3 l3 S3 => by
    obtain ⟨ds, ed, p4⟩ := opt_some ((Eo.aft_bind ..).mp p3)
    have := toL_some ed
    subst this
    obtain ⟨p, vs, ev, hs, hv⟩ := (r1.later S1 (l2.trans l3)).list
    refine ⟨p, vs, ev, hs, fun q hq => ?_⟩
    obtain ⟨S4, n⟩ := S3.fresh (o := .lst (cutV vs l h)) hq
    exact k (cutD ds l h) c3 q (cutV vs l h) _ p4 (((l1.trans l2).trans l3).trans (upd_le hq).x) (back_none S3 ((l1.trans l2).trans l3) hq) n S4 upd_same ((hv.cut l h).up (msk_new (K := X.en) (N := O) hq)), kx.later (l1.trans l2)⟩, kx.later l1⟩, kx⟩
end
end GX
namespace GX
open PySem PySem.Spec PyProof.Rows L2
/-- an int of moderate size -/
def Sm (i : Int) : Prop := i.natAbs.log2 < 8999
instance (i : Int) : Decidable (Sm i) := by unfold Sm; infer_instance
section
variable {K : En}
theorem Vw.flat {W : Wd} {O : Addr → Prop} {H : Hp} {v : V} {d : D} (h : Vw K W O H v d) (n : ∀ ds, d ≠ .lst ds) : Dv K (msk (W.N O) H) v d := by
  rcases h with h | ⟨ds, _, _, h, _⟩
  · exact h
  · exact absurd h (n ds)
theorem Vw.int {W : Wd} {O : Addr → Prop} {H : Hp} {v : V} {i : Int} (h : Vw K W O H v (.int i)) : v = .int i := by
  have := h.flat (fun _ => D.noConfusion); cases this; rfl
theorem Vw.str {W : Wd} {O : Addr → Prop} {H : Hp} {v : V} {i : Str} (h : Vw K W O H v (.str i)) : v = .str i := by
  have := h.flat (fun _ => D.noConfusion); cases this; rfl
theorem Vw.bl {W : Wd} {O : Addr → Prop} {H : Hp} {v : V} {i : Bool} (h : Vw K W O H v (.bl i)) : v = .bl i := by
  have := h.flat (fun _ => D.noConfusion); cases this; rfl
theorem Vw.non {W : Wd} {O : Addr → Prop} {H : Hp} {v : V} (h : Vw K W O H v .non) : v = .non := by
  have := h.flat (fun _ => D.noConfusion); cases this; rfl
theorem Vw.ty {W : Wd} {O : Addr → Prop} {H : Hp} {v : V} {n : String} (h : Vw K W O H v (.ty n)) : v = .ty n := by
  have := h.flat (fun _ => D.noConfusion); cases this; rfl
theorem Vw.tup {W : Wd} {O : Addr → Prop} {H : Hp} {v : V} {ds : List D} (h : Vw K W O H v (.tup ds)) : ∃ p vs, v = .ref p ∧ SqT K.K H p vs ∧ DvAll K (msk (W.N O) H) vs ds := by
  have := h.flat (fun _ => D.noConfusion)
  cases this with
  | tup hs ha => exact ⟨_, _, rfl, sqt_mono msk_le hs, ha⟩
def gI (f : Int → Int → D) : G2 := fun d e => match d, e with
  | .int i, .int j => some (f i j)
  | _, _ => none
def gIC (C : Int → Int → Prop) [∀ i j, Decidable (C i j)] (f : Int → Int → D) : G2 := fun d e => match d, e with
  | .int i, .int j => if C i j then some (f i j) else none
  | _, _ => none
theorem gI_some {f : Int → Int → D} {d e z : D} (h : gI f d e = some z) : ∃ i j, d = .int i ∧ e = .int j ∧ z = f i j := by
  unfold gI at h
  split at h
  · cases h; exact ⟨_, _, rfl, rfl, rfl⟩
  · cases h
theorem gIC_some {C : Int → Int → Prop} [∀ i j, Decidable (C i j)] {f : Int → Int → D} {d e z : D} (h : gIC C f d e = some z) : ∃ i j, d = .int i ∧ e = .int j ∧ C i j ∧ z = f i j := by
  unfold gIC at h
  split at h
  · split at h
    · cases h; exact ⟨_, _, rfl, rfl, by assumption, rfl⟩
    · cases h
  · cases h
theorem rd_I0 {g : Int → Int → V} {f : Int → Int → D} (h : ∀ i j H, Dv K H (g i j) (f i j)) : RdOp K (rI0 g) (gI f) := fun W O H x y d e z Q _ hx hy hg k => by
  obtain ⟨i, j, rfl, rfl, rfl⟩ := gI_some hg
  exact ⟨_, _, hx.int, hy.int, k _ H (Le.refl H) (h _ _ _)⟩
theorem rd_I {C C' : Int → Int → Prop} [∀ i j, Decidable (C' i j)] {g : Int → Int → V} {f : Int → Int → D} (hc : ∀ i j, C' i j → C i j) (h : ∀ i j H, Dv K H (g i j) (f i j)) : RdOp K (rI C g) (gIC C' f) := fun W O H x y d e z Q _ hx hy hg k => by
  obtain ⟨i, j, rfl, rfl, hcc, rfl⟩ := gIC_some hg
  exact ⟨_, _, hx.int, hy.int, hc _ _ hcc, k _ H (Le.refl H) (h _ _ _)⟩
def gAdd : G2 := gI fun i j => .int (i + j)
def gSub : G2 := gI fun i j => .int (i - j)
def gMul : G2 := gIC (fun i j => Sm i ∧ Sm j) fun i j => .int (i * j)
def gMod : G2 := gIC (fun _ j => 0 < j) fun i j => .int (i % j)
def gLt : G2 := gI fun i j => .bl (decide (i < j))
def gLe : G2 := gI fun i j => .bl (decide (i ≤ j))
def gGt : G2 := gI fun i j => .bl (decide (j < i))
def gGe : G2 := gI fun i j => .bl (decide (j ≤ i))
theorem rd_add : RdOp K (rI0 fun i j => .int (i + j)) gAdd := rd_I0 fun _ _ _ => .int _
theorem rd_sub : RdOp K (rI0 fun i j => .int (i - j)) gSub := rd_I0 fun _ _ _ => .int _
theorem rd_mul : RdOp K (rI CMulW fun i j => .int (i * j)) gMul := rd_I (fun i j h => by
  have h1 : i.natAbs.log2 < 8999 := h.1
  have h2 : j.natAbs.log2 < 8999 := h.2
  show i.natAbs.log2 + j.natAbs.log2 < 1000000
  omega) fun _ _ _ => .int _
theorem rd_mod : RdOp K (rI (fun _ j => 0 < j) fun i j => .int (i % j)) gMod := rd_I (fun _ _ h => h) fun _ _ _ => .int _
theorem rd_lt : RdOp K (rI0 fun i j => .bl (decide (i < j))) gLt := rd_I0 fun _ _ _ => .bl _
theorem rd_le : RdOp K (rI0 fun i j => .bl (decide (i ≤ j))) gLe := rd_I0 fun _ _ _ => .bl _
theorem rd_gt : RdOp K (rI0 fun i j => .bl (decide (j < i))) gGt := rd_I0 fun _ _ _ => .bl _
theorem rd_ge : RdOp K (rI0 fun i j => .bl (decide (j ≤ i))) gGe := rd_I0 fun _ _ _ => .bl _
def gS (f : Str → Str → D) : G2 := fun d e => match d, e with
  | .str i, .str j => some (f i j)
  | _, _ => none
theorem gS_some {f : Str → Str → D} {d e z : D} (h : gS f d e = some z) : ∃ i j, d = .str i ∧ e = .str j ∧ z = f i j := by
  unfold gS at h
  split at h
  · cases h; exact ⟨_, _, rfl, rfl, rfl⟩
  · cases h
def gEqS : G2 := gS fun x y => .bl (decide (x = y))
def gNeS : G2 := gS fun x y => .bl (!decide (x = y))
theorem rd_eqS : RdOp K rEq gEqS := fun W O H x y d e z Q _ hx hy hg k => by
  obtain ⟨i, j, rfl, rfl, rfl⟩ := gS_some hg
  rw [hx.str, hy.str]
  refine ⟨rfl, k _ H (Le.refl H) ?_⟩
  rw [show decide (V.str i = V.str j) = decide (i = j) from decide_eq_decide.mpr ⟨fun h => V.str.inj h, fun h => by rw [h]⟩]
  exact .bl _
theorem rd_neS : RdOp K rNe gNeS := fun W O H x y d e z Q _ hx hy hg k => by
  obtain ⟨i, j, rfl, rfl, rfl⟩ := gS_some hg
  rw [hx.str, hy.str]
  refine ⟨rfl, k _ H (Le.refl H) ?_⟩
  rw [show decide (V.str i = V.str j) = decide (i = j) from decide_eq_decide.mpr ⟨fun h => V.str.inj h, fun h => by rw [h]⟩]
  exact .bl _
def gPow : G2 := gIC (fun i j => 0 ≤ j ∧ j ≤ 200 ∧ Sm i) fun i j => .int (i ^ j.toNat)
end
def CPowW (i j : Int) : Prop := 0 ≤ j ∧ j ≤ 200 ∧ Sm i
section
variable {X : Cx}
theorem op_powW : OpR X (binaryOp .Pow) (rI CPowW fun i j => .int (i ^ j.toNat)) := opI fun i j _ _ _ _ _ hc q => pow_int hc.1 (by
  obtain ⟨h0, h1, h2⟩ := hc
  have h3 : i.natAbs.log2 < 8999 := h2
  have b : (Builtin.Int.intBits i : Int) ≤ 9000 := by
    have : Builtin.Int.intBits i ≤ i.natAbs.log2 + 1 := by
      unfold Builtin.Int.intBits
      split <;> omega
    omega
  have b0 : (0 : Int) ≤ (Builtin.Int.intBits i : Int) := Int.natCast_nonneg _
  calc (Builtin.Int.intBits i : Int) * j ≤ 9000 * 200 := Int.mul_le_mul b h1 h0 (by decide)
    _ ≤ 2 ^ 27 := by decide) q
end
section
variable {K : En}
theorem rd_pow : RdOp K (rI CPowW fun i j => .int (i ^ j.toNat)) gPow := rd_I (fun _ _ h => h) fun _ _ _ => .int _
def D.okEq (d : D) : Bool := d.plain && SeqAt.shaped d.py
def gEqD : G2 := fun d e => if d.okEq && e.okEq then some (.bl (PyData.eqv d.py e.py)) else none
def gNeD : G2 := fun d e => if d.okEq && e.okEq then some (.bl (!PyData.eqv d.py e.py)) else none
theorem okEq2 {d e : D} (h : (d.okEq && e.okEq) = true) : (d.plain = true ∧ SeqAt.shaped d.py = true) ∧ e.plain = true ∧ SeqAt.shaped e.py = true := by
  rw [Bool.and_eq_true] at h
  unfold D.okEq at h
  rw [Bool.and_eq_true, Bool.and_eq_true] at h
  exact h
theorem rd_eqD : RdOp K (rEqD K.K) gEqD := fun W O H x y d e z Q _ hx hy hg k => by
  unfold gEqD at hg
  split at hg
  · rename_i hh
    cases hg
    obtain ⟨⟨h1, h2⟩, h3, h4⟩ := okEq2 hh
    exact ⟨d.py, e.py, Dv.dp d x h1 hx.dv, Dv.dp e y h3 hy.dv, h2, h4, k _ H (Le.refl H) (.bl _)⟩
  · cases hg
theorem rd_neD : RdOp K (rNeD K.K) gNeD := fun W O H x y d e z Q _ hx hy hg k => by
  unfold gNeD at hg
  split at hg
  · rename_i hh
    cases hg
    obtain ⟨⟨h1, h2⟩, h3, h4⟩ := okEq2 hh
    exact ⟨d.py, e.py, Dv.dp d x h1 hx.dv, Dv.dp e y h3 hy.dv, h2, h4, k _ H (Le.refl H) (.bl _)⟩
  · cases hg
def D.isNon : D → Bool
  | .non => true
  | _ => false
def gIsN : G2 := fun d e => match e with
  | .non => some (.bl d.isNon)
  | _ => none
theorem Vw.isNon {W : Wd} {O : Addr → Prop} {H : Hp} {v : V} {d : D} (h : Vw K W O H v d) : decide (v = .non) = d.isNon := by
  rcases h with h | ⟨_, _, _, h, h', _⟩
  · cases h <;> rfl
  · subst h; subst h'; rfl
theorem rd_isN : RdOp K (fun x y H Q => y = .non ∧ Q (.bl (decide (x = .non))) H) gIsN := fun W O H x y d e z Q _ hx hy hg k => by
  unfold gIsN at hg
  split at hg
  · cases hg
    refine ⟨hy.non, ?_⟩
    rw [hx.isNon]
    exact k _ H (Le.refl H) (.bl _)
  · cases hg
def gIx : G2 := fun d e => match d, e with
  | .lst ds, .int i => atI ds i
  | .tup ds, .int i => atI ds i
  | _, _ => none
theorem DvAll.atI {H : Hp} {vs : List V} {ds : List D} {i : Int} {d : D} (h : DvAll K H vs ds) (e : L2.atI ds i = some d) : ∃ v, L2.atI vs i = some v ∧ Dv K H v d := by
  unfold L2.atI at e ⊢
  rw [h.length]
  cases q : ixN ds.length i with
  | none => rw [q] at e; cases e
  | some j =>
    rw [q] at e
    obtain ⟨v, h1, h2⟩ := h.get (i := j) e
    exact ⟨v, h1, h2⟩
theorem rd_ix : RdOp K (rIx K.K) gIx := fun W O H x y d e z Q _ hx hy hg k => by
  unfold gIx at hg
  split at hg
  · obtain ⟨p, vs, ev, hs, hv⟩ := hx.list
    obtain ⟨v, h1, h2⟩ := hv.atI hg
    exact .inl ⟨p, vs, _, v, ev, hy.int, hs, h1, k v H (Le.refl H) h2⟩
  · obtain ⟨p, vs, ev, hs, hv⟩ := hx.tup
    obtain ⟨v, h1, h2⟩ := hv.atI hg
    exact .inr (.inl ⟨p, vs, _, v, ev, hy.int, hs, h1, k v H (Le.refl H) h2⟩)
  · cases hg
def gNeg : G1 := fun d => match d with
  | .int i => some (.int (-i))
  | _ => none
theorem rd_neg : RdUn K (rU fun i => .int (-i)) gNeg := fun W O H x d z Q _ hx hg k => by
  unfold gNeg at hg
  split at hg
  · cases hg; exact ⟨_, hx.int, k _ H (Le.refl H) (.int _)⟩
  · cases hg
def ints? : List D → Option (List Int)
  | [] => some []
  | .int i :: r => (ints? r).map (i :: ·)
  | _ :: _ => none
theorem ints?_eq : ∀ {ds : List D} {ns : List Int}, ints? ds = some ns → ds = ns.map D.int
  | [], ns, h => by cases h; rfl
  | d :: r, ns, h => by
    cases d with
    | int i =>
      unfold ints? at h
      cases q : ints? r with
      | none => rw [q] at h; cases h
      | some ms =>
        rw [q] at h
        cases h
        rw [ints?_eq q]; rfl
    | _ => cases h
def gLtT : G2 := fun d e => match d, e with
  | .tup ds, .tup es => (match ints? ds, ints? es with
    | some ns, some ms => some (.bl (HT.lexLt ns ms))
    | _, _ => none)
  | _, _ => none
theorem rd_ltT : RdOp K (rLtT K.K) gLtT := fun W O H x y d e z Q _ hx hy hg k => by
  unfold gLtT at hg
  split at hg
  · split at hg
    · rename_i q1 q2
      cases hg
      have e1 := ints?_eq q1
      have e2 := ints?_eq q2
      subst e1; subst e2
      obtain ⟨a, vs, ea, ha, hv⟩ := hx.tup
      obtain ⟨b, us, eb, hb, hu⟩ := hy.tup
      rw [hv.ints] at ha
      rw [hu.ints] at hb
      exact ⟨a, b, _, _, ea, eb, ha, hb, k _ H (Le.refl H) (.bl _)⟩
    · cases hg
  · cases hg
def gLen : GL := fun ds => match ds with
  | [.lst xs] => some (.int xs.length)
  | [.tup xs] => some (.int xs.length)
  | _ => none
theorem va1 {W : Wd} {O : Addr → Prop} {H : Hp} {vs : List V} {d : D} (h : VwAll K W O H vs [d]) : ∃ v, vs = [v] ∧ Vw K W O H v d := by
  match vs, h with
  | [v], h => exact ⟨v, rfl, h.1⟩
  | [], h => exact h.elim
  | _ :: _ :: _, h => exact h.2.elim
theorem va2 {W : Wd} {O : Addr → Prop} {H : Hp} {vs : List V} {d e : D} (h : VwAll K W O H vs [d, e]) : ∃ v u, vs = [v, u] ∧ Vw K W O H v d ∧ Vw K W O H u e := by
  match vs, h with
  | [v, u], h => exact ⟨v, u, rfl, h.1, h.2.1⟩
  | [], h => exact h.elim
  | [_], h => exact h.2.elim
  | _ :: _ :: _ :: _, h => exact h.2.2.elim
theorem rd_len : RdCall K (fun xs H Q => ∃ p ys, xs = [.ref p] ∧ (SqL K.K H p ys ∨ SqT K.K H p ys) ∧ Q (.int ys.length) H) gLen := fun W O H xs ds z Q _ h hg k => by
  unfold gLen at hg
  split at hg
  · cases hg
    obtain ⟨v, rfl, hv⟩ := va1 h
    obtain ⟨p, vs, rfl, hs, ha⟩ := hv.list
    refine ⟨p, vs, rfl, .inl hs, k _ H (Le.refl H) ?_⟩
    rw [ha.length]; exact .int _
  · cases hg
    obtain ⟨v, rfl, hv⟩ := va1 h
    obtain ⟨p, vs, rfl, hs, ha⟩ := hv.tup
    refine ⟨p, vs, rfl, .inr hs, k _ H (Le.refl H) ?_⟩
    rw [ha.length]; exact .int _
  · cases hg
def gAbs : GL := fun ds => match ds with
  | [.int i] => some (.int (if i < 0 then -i else i))
  | _ => none
theorem rd_abs : RdCall K (fun xs H Q => ∃ i, xs = [.int i] ∧ Q (.int (if i < 0 then -i else i)) H) gAbs := fun W O H xs ds z Q _ h hg k => by
  unfold gAbs at hg
  split at hg
  · cases hg
    obtain ⟨v, rfl, hv⟩ := va1 h
    exact ⟨_, by rw [hv.int], k _ H (Le.refl H) (.int _)⟩
  · cases hg
/-- one list of ints -/
def gL1 (f : List Int → Option D) : GL := fun ds => match ds with
  | [.lst xs] => (match ints? xs with
    | some ns => f ns
    | none => none)
  | _ => none
theorem l1_of {W : Wd} {O : Addr → Prop} {H : Hp} {vs : List V} {ds : List D} {z : D} {f : List Int → Option D} (h : VwAll K W O H vs ds) (hg : gL1 f ds = some z) : ∃ p ns, vs = [.ref p] ∧ SqL K.K H p (ns.map V.int) ∧ f ns = some z := by
  unfold gL1 at hg
  split at hg
  · split at hg
    · rename_i q
      have e := ints?_eq q
      subst e
      obtain ⟨v, rfl, hv⟩ := va1 h
      obtain ⟨p, us, rfl, hs, ha⟩ := hv.list
      rw [ha.ints] at hs
      exact ⟨p, _, rfl, hs, hg⟩
    · cases hg
  · cases hg
def gMin : GL := gL1 fun ns => ns.min?.map D.int
theorem rd_min : RdCall K (rMin K.K) gMin := fun W O H xs ds z Q _ h hg k => by
  obtain ⟨p, ns, rfl, hs, hp⟩ := l1_of h hg
  rw [Option.map_eq_some_iff] at hp
  obtain ⟨m, hm, rfl⟩ := hp
  rw [List.min?_eq_some_iff] at hm
  refine ⟨p, ns, rfl, hs, List.length_pos_iff.mpr (fun e => by rw [e] at hm; exact absurd hm.1 (by simp)), fun m' h1 h2 => ?_⟩
  have : m' = m := Int.le_antisymm (h2 m hm.1) (hm.2 m' h1)
  subst this
  exact k _ H (Le.refl H) (.int _)
def bls? : List D → Option (List Bool)
  | [] => some []
  | .bl i :: r => (bls? r).map (i :: ·)
  | _ :: _ => none
theorem bls?_eq : ∀ {ds : List D} {ns : List Bool}, bls? ds = some ns → ds = ns.map D.bl
  | [], ns, h => by cases h; rfl
  | d :: r, ns, h => by
    cases d with
    | bl i =>
      unfold bls? at h
      cases q : bls? r with
      | none => rw [q] at h; cases h
      | some ms =>
        rw [q] at h
        cases h
        rw [bls?_eq q]; rfl
    | _ => cases h
def gB1 (f : List Bool → Bool) : GL := fun ds => match ds with
  | [.lst xs] => (match bls? xs with
    | some ns => some (.bl (f ns))
    | none => none)
  | _ => none
def gAll : GL := gB1 fun bs => bs.all id
theorem b1_of {W : Wd} {O : Addr → Prop} {H : Hp} {vs : List V} {ds : List D} {z : D} {f : List Bool → Bool} (h : VwAll K W O H vs ds) (hg : gB1 f ds = some z) : ∃ p ns, vs = [.ref p] ∧ SqL K.K H p (ns.map V.bl) ∧ z = .bl (f ns) := by
  unfold gB1 at hg
  split at hg
  · split at hg
    · rename_i q
      cases hg
      have e := bls?_eq q
      subst e
      obtain ⟨v, rfl, hv⟩ := va1 h
      obtain ⟨p, us, rfl, hs, ha⟩ := hv.list
      rw [ha.bls] at hs
      exact ⟨p, _, rfl, hs, rfl⟩
    · cases hg
  · cases hg
theorem rd_all : RdCall K (rAll K.K) gAll := fun W O H xs ds z Q _ h hg k => by
  obtain ⟨p, ns, rfl, hs, rfl⟩ := b1_of h hg
  exact ⟨p, ns, rfl, hs, k _ H (Le.refl H) (.bl _)⟩
end
end GX
namespace GX
open PySem PySem.Spec PyProof.Rows L2
def wipeR (ρ : Rho) : List Nat → Rho
  | [] => ρ
  | v :: vs => (wipeR ρ vs).set v .non
section
variable {K : En} {W : Wd} {O O' : Addr → Prop} {σ : L2.St} {H H' : Hp} {ρ : Rho} {c c' : Be}
theorem Stt.wipe (S : Stt K W O σ H ρ c) : ∀ vs : List Nat, Stt K W O (L2.wipe σ vs) H (wipeR ρ vs) c
  | [] => S
  | v :: vs => (Stt.wipe S vs).clear v none
theorem Stt.fgt (S : Stt K W O σ H ρ c) : ∀ vs : List Nat, Stt K W O σ H (wipeR ρ vs) c
  | [] => S
  | v :: vs => (Stt.fgt S vs).forget v
theorem wipe_at (σ : L2.St) (i : Nat) : ∀ vs : List Nat, (L2.wipe σ vs)[i]? = if i ∈ vs then (if i < σ.length then some none else none) else σ[i]?
  | [] => by simp [L2.wipe]
  | v :: vs => by
    show ((L2.wipe σ vs).set v none)[i]? = _
    rw [List.getElem?_set, wipe_at σ i vs, L2.wipe_length]
    by_cases h : v = i
    · subst h
      simp
    · by_cases h2 : i ∈ vs
      · simp [h, h2]
      · have : ¬ (i = v ∨ i ∈ vs) := fun q => q.elim (fun e => h e.symm) h2
        simp [h, h2, this]
        intro e
        exact absurd e.symm h
theorem wipe_set {σ : L2.St} {vs : List Nat} {j : Nat} {x : Option V} (hj : j ∈ vs) (τ : L2.St) (hτ : L2.wipe τ vs = L2.wipe σ vs) : L2.wipe (τ.set j x) vs = L2.wipe σ vs := by
  rw [← hτ]
  apply List.ext_getElem?
  intro i
  rw [wipe_at, wipe_at, List.length_set]
  by_cases h : i ∈ vs
  · rw [if_pos h, if_pos h]
  · rw [if_neg h, if_neg h, List.getElem?_set_ne (fun (e : j = i) => h (by rw [← e]; exact hj))]
theorem wipe_wipe (σ : L2.St) (vs : List Nat) : L2.wipe (L2.wipe σ vs) vs = L2.wipe σ vs := by
  apply List.ext_getElem?
  intro i
  rw [wipe_at, wipe_at, L2.wipe_length]
  by_cases h : i ∈ vs
  · rw [if_pos h, if_pos h]
  · rw [if_neg h, if_neg h]
end
def RdG (K : En) (g : TG) (mg : MG) : Prop := ∀ (W : Wd) (O : Addr → Prop) (σ : L2.St) (H : Hp) (ρ ρ' : Rho) (c : Be) (d : D) (v : V) (Q : L2.St → Hp → Prop),
  Stt K W O σ H ρ c → Dv K (msk (W.N O) H) v d → mg d ρ = some ρ' → (∀ σ', Stt K W O σ' H ρ' c → Q σ' H) → g v σ H Q
abbrev MGs := List D → Rho → Option Rho
def RdGs (K : En) (g : TGs) (mg : MGs) : Prop := ∀ (W : Wd) (O : Addr → Prop) (σ : L2.St) (H : Hp) (ρ ρ' : Rho) (c : Be) (ds : List D) (vs : List V) (Q : L2.St → Hp → Prop),
  Stt K W O σ H ρ c → DvAll K (msk (W.N O) H) vs ds → mg ds ρ = some ρ' → (∀ σ', Stt K W O σ' H ρ' c → Q σ' H) → g vs σ H Q
def gNm (i : Nat) : MG := fun d ρ => some (ρ.set i (.val d))
def gsNil : MGs := fun ds ρ => match ds with
  | [] => some ρ
  | _ => none
def gsCons (m : MG) (r : MGs) : MGs := fun ds ρ => match ds with
  | d :: ds => (m d ρ).bind fun ρ' => r ds ρ'
  | [] => none
def gTp (n : Nat) (m : MGs) : MG := fun d ρ => match d with
  | .tup ds => if ds.length = n then m ds ρ else none
  | _ => none
section
variable {K : En} {g : TG} {gs : TGs} {m : MG} {ms : MGs} {n i : Nat}
theorem rg_name : RdG K (gName i) (gNm i) := fun W O σ H ρ ρ' c d v Q S hv hm k => by
  cases hm
  exact k _ (S.set i hv)
theorem rgs_nil : RdGs K gNil gsNil := fun W O σ H ρ ρ' c ds vs Q S hv hm k => by
  cases hv with
  | nil => cases hm; exact ⟨rfl, k _ S⟩
  | cons _ _ => cases hm
theorem rgs_cons (h : RdG K g m) (hs : RdGs K gs ms) : RdGs K (gCons g gs) (gsCons m ms) := fun W O σ H ρ ρ' c ds vs Q S hv hm k => by
  cases hv with
  | nil => cases hm
  | cons h1 h2 =>
    obtain ⟨ρ1, e1, e2⟩ := Option.bind_eq_some_iff.mp (show (m _ ρ).bind _ = some ρ' from hm)
    exact ⟨_, _, rfl, h W O σ H ρ ρ1 c _ _ _ S h1 e1 fun σ' S' => hs W O σ' H ρ1 ρ' c _ _ _ S' h2 e2 k⟩
theorem rg_tup (hs : RdGs K gs ms) : RdG K (gTup K.K n gs) (gTp n ms) := fun W O σ H ρ ρ' c d v Q S hv hm k => by
  unfold gTp at hm
  split at hm
  · split at hm
    · rename_i hn
      cases hv with
      | tup h1 h2 => exact ⟨_, _, rfl, sqt_mono msk_le h1, by rw [h2.length]; exact hn, hs W O σ H ρ ρ' c _ _ _ S h2 hm k⟩
    · cases hm
  · cases hm
/-- a target stores in the slots vs alone -/
def Hw (g : TG) (vs : List Nat) : Prop := ∀ (x : V) (τ σ : L2.St) (H : Hp) (Q : L2.St → Hp → Prop), L2.wipe τ vs = L2.wipe σ vs → g x τ H Q → g x τ H fun σ2 H2 => L2.wipe σ2 vs = L2.wipe σ vs ∧ Q σ2 H2
def Hws (g : TGs) (vs : List Nat) : Prop := ∀ (x : List V) (τ σ : L2.St) (H : Hp) (Q : L2.St → Hp → Prop), L2.wipe τ vs = L2.wipe σ vs → g x τ H Q → g x τ H fun σ2 H2 => L2.wipe σ2 vs = L2.wipe σ vs ∧ Q σ2 H2
theorem hw_name {vs : List Nat} (hi : i ∈ vs) : Hw (gName i) vs := fun x τ σ H Q e q => ⟨wipe_set hi τ e, q⟩
theorem hws_nil {vs : List Nat} : Hws gNil vs := fun x τ σ H Q e q => ⟨q.1, e, q.2⟩
theorem hws_cons {vs : List Nat} {i : Nat} (hi : i ∈ vs) (h2 : Hws gs vs) : Hws (gCons (gName i) gs) vs := fun x τ σ H Q e ⟨v, r, ev, q⟩ => ⟨v, r, ev, h2 r _ σ H Q (wipe_set hi τ e) q⟩
theorem hw_tup {K : PySem.W.Frag} {vs : List Nat} (h : Hws gs vs) : Hw (gTup K n gs) vs := fun x τ σ H Q e ⟨a, xs, ea, hx, hl, q⟩ => ⟨a, xs, ea, hx, hl, h xs τ σ H Q e q⟩
end
def mNext : MS := fun ρ c => .nx ρ c
def mSeq (m1 m2 : MS) : MS := fun ρ c => (m1 ρ c).seq m2
def mSet (i : Nat) (m : ME) : MS := fun ρ c => .of (m ρ c) ρ fun d c' => .nx (ρ.set i (.val d)) c'
def mOwn (i : Nat) (m : MA) : MS := fun ρ c => .of (m ρ c) ρ fun ds c' => .nx (ρ.set i (.own ds)) c'
def nxO (r : Option Rho) (c : Be) : So := match r with
  | some ρ => .nx ρ c
  | none => .no
def mAsg (m : ME) (g : MG) : MS := fun ρ c => .of (m ρ c) ρ fun d c' => nxO (g d ρ) c'
def mPar (i j : Nat) (m : MA) : MS := fun ρ c => .of (m ρ c) ρ fun ds c' => match ds with
  | [d, e] => .nx ((ρ.set i (.val d)).set j (.val e)) c'
  | _ => .no
def mPar3 (i j l : Nat) (m : MA) : MS := fun ρ c => .of (m ρ c) ρ fun ds c' => match ds with
  | [d, e, f] => .nx (((ρ.set i (.val d)).set j (.val e)).set l (.val f)) c'
  | _ => .no
def mRet (m : ME) : MS := fun ρ c => .of (m ρ c) ρ fun d c' => .rt d c'
def mIfS (t : MT) (m1 m2 : MS) : MS := fun ρ c => .of (t ρ c) ρ fun b c' => match b with
  | true => m1 ρ c'
  | false => m2 ρ c'
def mDrop (m : ME) : MS := fun ρ c => .of (m ρ c) ρ fun _ c' => .nx ρ c'
def mNever : MS := fun _ _ => .no
def mCont : MS := fun ρ c => .ct ρ c
def mApp (i : Nat) (m : ME) : MS := fun ρ c => match ρ[i]? with
  | some (.own ds) => .of (m ρ c) ρ fun d c' => if ds.length + 1 ≤ 16777216 then .nx (ρ.set i (.own (ds ++ [d]))) c' else .no
  | _ => .no
/-- an own list is let go: from here on plain data -/
def leakR (ρ : Rho) (i : Nat) : Option Rho := match ρ[i]? with
  | some (.own ds) => some (ρ.set i (.val (.lst ds)))
  | _ => none
def mLeak (i : Nat) (m : MS) : MS := fun ρ c => match leakR ρ i with
  | some ρ' => m ρ' c
  | none => .no
/-- slots forgotten behind a statement -/
def So.wipe (s : So) (vs : List Nat) : So := match s with
  | .nx r b => .nx (wipeR r vs) b
  | .bk r b => .bk (wipeR r vs) b
  | .ct r b => .ct (wipeR r vs) b
  | s => s
def mPost (vs : List Nat) (m : MS) : MS := fun ρ c => (m ρ c).wipe vs
theorem So.aft_wipe (s : So) (vs : List Nat) (C : Co) : (s.wipe vs).aft C = s.aft { C with nx := fun r b => C.nx (wipeR r vs) b, bk := fun r b => C.bk (wipeR r vs) b, ct := fun r b => C.ct (wipeR r vs) b } := by cases s <;> rfl
theorem nxO_aft {r : Option Rho} {c : Be} {C : Co} (h : (nxO r c).aft C) : ∃ ρ, r = some ρ ∧ C.nx ρ c := by
  cases r with
  | none => exact h.elim
  | some ρ => exact ⟨ρ, rfl, h⟩
section
variable {X : Cx} {Z : WX} {st : Stmt} {rest : List Stmt} {m m1 m2 : MS} {me : ME} {ma : MA} {mt : MT} {i j l : Nat}
theorem ss_nil : PSs X [] (rdS X.en Z mNext) := pss_nil.imp fun D σ H ⟨W, O, ρ, c, C, S, hm, R⟩ => R.nx O ρ c σ H hm (Le.refl _) S
theorem ss_cons (h1 : PS X st (rdS X.en Z m1)) (h2 : PSs X rest (rdS X.en Z m2)) : PSs X (st :: rest) (rdS X.en Z (mSeq m1 m2)) := (pss_cons h1 h2).imp fun D σ H ⟨W, O, ρ, c, C, S, hm, R⟩ =>
  ⟨W, O, ρ, c, { C with nx := fun r b => (m2 r b).aft C }, S, (So.aft_seq ..).mp hm, ⟨fun O' ρ' c' σ' H' q l S' => ⟨W, O', ρ', c', C, S', q, R.later l⟩, R.rt, R.bk, R.ct, R.ex⟩⟩
theorem ss_one (h1 : PS X st (rdS X.en Z m1)) : PSs X [st] (rdS X.en Z m1) := pss_one h1
theorem ss_post {vs : List Nat} (h : PSs X rest (rdS X.en Z m)) : PSs X rest (rdS X.en Z (mPost vs m)) := h.imp fun D σ H ⟨W, O, ρ, c, C, S, hm, R⟩ =>
  ⟨W, O, ρ, c, _, S, (So.aft_wipe ..).mp hm, ⟨fun O' ρ' c' σ' H' q l S' => R.nx O' _ c' σ' H' q l (S'.fgt vs), R.rt, fun O' ρ' c' σ' H' q l S' => R.bk O' _ c' σ' H' q l (S'.fgt vs), fun O' ρ' c' σ' H' q l S' => R.ct O' _ c' σ' H' q l (S'.fgt vs), R.ex⟩⟩
theorem s_set (h : PS X st (tAsg (rdE X.en Z me) (gName i))) : PS X st (rdS X.en Z (mSet i me)) := h.imp fun D σ H ⟨W, O, ρ, c, C, S, hm, R⟩ =>
  ⟨W, O, ρ, c, _, _, S, (So.aft_of ..).mp hm, fun d c1 v H1 p l S1 r => R.nx O _ c1 _ H1 p (lex_msk S l) (S1.set i r), R.xe S⟩
theorem s_asg {g : TG} {mg : MG} (h : PS X st (tAsg (rdE X.en Z me) g)) (hg : RdG X.en g mg) : PS X st (rdS X.en Z (mAsg me mg)) := h.imp fun D σ H ⟨W, O, ρ, c, C, S, hm, R⟩ =>
  ⟨W, O, ρ, c, _, _, S, (So.aft_of ..).mp hm, fun d c1 v H1 p l S1 r => by
    obtain ⟨ρ', e, q⟩ := nxO_aft p
    exact hg W O σ H1 ρ ρ' c1 d v _ S1 r e fun σ' S' => R.nx O ρ' c1 σ' H1 q (lex_msk S l) S', R.xe S⟩
theorem s_par (h : PS X st (tPar i j (rdA X.en Z ma))) : PS X st (rdS X.en Z (mPar i j ma)) := h.imp fun D σ H ⟨W, O, ρ, c, C, S, hm, R⟩ =>
  ⟨W, O, ρ, c, _, _, S, (So.aft_of ..).mp hm, fun ds c1 vs H1 p l S1 r => by
    match ds, p with
    | [d, e], p =>
      cases r with
      | cons r1 r' =>
        cases r' with
        | cons r2 r3 =>
          cases r3
          exact ⟨_, _, rfl, R.nx O _ c1 _ H1 p (lex_msk S l) ((S1.set i r1).set j r2)⟩, R.xe S⟩
theorem s_par3A (h : PS X st (tPar3 i j l (rdA X.en Z ma))) : PS X st (rdS X.en Z (mPar3 i j l ma)) := h.imp fun D σ H ⟨W, O, ρ, c, C, S, hm, R⟩ =>
  ⟨W, O, ρ, c, _, _, S, (So.aft_of ..).mp hm, fun ds c1 vs H1 p l S1 r => by
    match ds, p with
    | [d, e, f], p =>
      cases r with
      | cons r1 r' =>
        cases r' with
        | cons r2 r3 =>
          cases r3 with
          | cons r3 r4 =>
            cases r4
            exact ⟨_, _, _, rfl, R.nx O _ c1 _ H1 p (lex_msk S l) (((S1.set _ r1).set _ r2).set _ r3)⟩, R.xe S⟩
theorem s_own (h : PS X st (tAsg (rdF X.en Z ma) (gName i))) : PS X st (rdS X.en Z (mOwn i ma)) := h.imp fun D σ H ⟨W, O, ρ, c, C, S, hm, R⟩ =>
  ⟨W, O, ρ, c, _, _, S, (So.aft_of ..).mp hm, fun ds c1 p vs H1 q l hp n S1 hq r => by
    refine R.nx (fun b => O b ∨ b = p) _ c1 _ H1 q (msk_up (fun b o nb h => l b o (S.nb nb) h) fun b o h nb nb' => ?_) (S1.slot i (some (.ref p)) (.own ds) (fun _ h => nomatch h) (fun es h => ?_) (fun _ h => nomatch h))
    · rcases nb' with h' | h' | h'
      · exact nb (.inl h')
      · exact nb (.inr h')
      · rw [h', hp] at h; cases h
    · cases h
      refine ⟨p, vs, rfl, .inr rfl, hq, r, fun k es hk he e => ?_⟩
      obtain ⟨p', _, e', ho, _⟩ := S.own k es he
      rw [e'] at e
      cases e
      exact n (.inr ho), R.xe S⟩
theorem Stt.ret {K : En} {W : Wd} {O : Addr → Prop} {σ : L2.St} {H : Hp} {ρ : Rho} {c : Be} (S : Stt K W O σ H ρ c) {v : V} {d : D} (r : Dv K (msk (W.N O) H) v d) : RetOk K W H c v d := by
  have le : Le (msk (W.N O) H) (msk W.M0 H) := msk_up (fun _ _ _ h => h) fun b o h nb nb' => nb (.inl nb')
  exact ⟨S.ex, ⟨S.bl, fun j a ob h1 h2 => (S.bo j a ob h1 h2).up le fun _ q => q⟩, r.up le⟩
theorem s_ret (h : PS X st (tRet (rdE X.en Z me))) : PS X st (rdS X.en Z (mRet me)) := h.imp fun D σ H ⟨W, O, ρ, c, C, S, hm, R⟩ =>
  ⟨W, O, ρ, c, _, _, S, (So.aft_of ..).mp hm, fun d c1 v H1 p l S1 r => R.rt d c1 v H1 p (S1.ret r), R.xe S⟩
theorem s_if (h : PS X st (tIfS (rdT X.en Z mt) (rdS X.en Z m1) (rdS X.en Z m2))) : PS X st (rdS X.en Z (mIfS mt m1 m2)) := h.imp fun D σ H ⟨W, O, ρ, c, C, S, hm, R⟩ =>
  ⟨W, O, ρ, c, _, _, S, (So.aft_of ..).mp hm, fun b c1 H1 p l S1 => by
    cases b with
    | true => exact ⟨W, O, ρ, c1, C, S1, p, R.later (lex_msk S l)⟩
    | false => exact ⟨W, O, ρ, c1, C, S1, p, R.later (lex_msk S l)⟩, R.xe S⟩
theorem s_drop (h : PS X st (tDrop (rdE X.en Z me))) : PS X st (rdS X.en Z (mDrop me)) := h.imp fun D σ H ⟨W, O, ρ, c, C, S, hm, R⟩ =>
  ⟨W, O, ρ, c, _, _, S, (So.aft_of ..).mp hm, fun d c1 v H1 p l S1 r => R.nx O _ c1 _ H1 p (lex_msk S l) S1, R.xe S⟩
theorem s_never : PS X st (rdS X.en Z mNever) := ps_never.imp fun D σ H ⟨W, O, ρ, c, C, S, hm, R⟩ => hm
theorem s_cont (h : PS X st tCont) : PS X st (rdS X.en Z mCont) := h.imp fun D σ H ⟨W, O, ρ, c, C, S, hm, R⟩ => R.ct O ρ c σ H hm (Le.refl _) S
/-- an own list is written -/
theorem own_write {K : En} {W : Wd} {O : Addr → Prop} {σ : L2.St} {H : Hp} {ρ : Rho} {c : Be} {p : Addr} {vs vs' : List V} {ds ds' : List D} (S : Stt K W O σ H ρ c) (hi : ρ[i]? = some (.own ds)) (hσ : σ[i]? = some (some (.ref p)))
    (ho : O p) (hp : H p = some (.lst vs)) (r : DvAll K (msk (W.N O) H) vs' ds') : Stt K W O σ (upd H p (.lst vs')) (ρ.set i (.own ds')) c ∧ Le (msk (W.N O) H) (msk (W.N O) (upd H p (.lst vs'))) := by
  have np : W.H0 p = none := (S.oo p ho).1
  have nm : ¬ W.M0 p := fun h => by
    obtain ⟨o, q⟩ := S.m0 p h
    rw [np] at q; cases q
  have ns := S.own_nb ho
  have le : Le (msk (W.N O) H) (msk (W.N O) (upd H p (.lst vs'))) := msk_up (fun b o nb h => by rw [upd_ne (fun (e : b = p) => nb (.inr (by rw [e]; exact ho)))]; exact h) fun _ _ _ h => h
  have li : i < ρ.length := (List.getElem?_eq_some_iff.mp hi).1
  refine ⟨⟨fun b o hb h => ?_, S.m0, fun b h => ?_, fun b h => ⟨(S.oo b h).1, ?_⟩, S.bm, S.bn, S.bl, fun j a ob h1 h2 => ?_, by rw [List.length_set]; exact S.len, fun j e hj => ?_, fun j es hj => ?_, fun j k es fs q hj hk sj sk => ?_, fun j n hj => ?_⟩, le⟩
  · rw [upd_ne (fun e => by rw [e, np] at h; cases h)]
    exact S.ex b o hb h
  · obtain ⟨o, q⟩ := S.m1 b h
    exact ⟨o, by rw [upd_ne (fun (e : b = p) => nm (by rw [← e]; exact h))]; exact q⟩
  · by_cases e : b = p
    · exact ⟨_, by rw [e]; exact upd_same⟩
    · obtain ⟨o, q⟩ := (S.oo b h).2
      exact ⟨o, by rw [upd_ne e]; exact q⟩
  · refine (S.bo j a ob h1 h2).up le fun o q => ?_
    rw [upd_ne (fun (e : a = p) => ns (by rw [← e]; exact List.mem_of_getElem? h1))]
    exact q
  · by_cases q : i = j
    · subst q; have z := set_val hj; cases z
    · rw [List.getElem?_set_ne q] at hj
      obtain ⟨v, h1, h2⟩ := S.val j e hj
      exact ⟨v, h1, h2.up le⟩
  · by_cases q : i = j
    · subst q
      have z := set_val hj
      cases z
      exact ⟨p, vs', hσ, ho, upd_same, r.up le⟩
    · rw [List.getElem?_set_ne q] at hj
      obtain ⟨p', us, h1, h2, h3, h4⟩ := S.own j es hj
      refine ⟨p', us, h1, h2, ?_, h4.up le⟩
      rw [upd_ne]
      · exact h3
      · intro e
        subst e
        exact q (S.inj i j ds es p' hi hj hσ h1)
  · have gj : ∃ ds1, ρ[j]? = some (Sl.own ds1) := by
      by_cases e : i = j
      · exact ⟨ds, e ▸ hi⟩
      · rw [List.getElem?_set_ne e] at hj; exact ⟨_, hj⟩
    have gk : ∃ ds1, ρ[k]? = some (Sl.own ds1) := by
      by_cases e : i = k
      · exact ⟨ds, e ▸ hi⟩
      · rw [List.getElem?_set_ne e] at hk; exact ⟨_, hk⟩
    obtain ⟨d1, g1⟩ := gj
    obtain ⟨d2, g2⟩ := gk
    exact S.inj j k d1 d2 q g1 g2 sj sk
  · by_cases q : i = j
    · subst q; have z := set_val hj; cases z
    · rw [List.getElem?_set_ne q] at hj
      exact S.sto j n hj
theorem s_app (h : PS X st (tDrop (tBM X.K "list" rAppend (tVar i) (tCons (rdE X.en Z me) tNil)))) : PS X st (rdS X.en Z (mApp i me)) := h.imp fun D σ H ⟨W, O, ρ, c, C, S, hm, R⟩ => by
  unfold mApp at hm
  split at hm
  · rename_i ds hi
    obtain ⟨p, vs, hσ, ho, hp, r⟩ := S.own i ds hi
    refine ⟨.ref p, hσ, .inl ⟨rfl, vs, SqL.of hp⟩, W, O, ρ, c, _, _, S, (So.aft_of ..).mp hm, fun d c1 v H1 q l S1 rd => ?_, R.xe S⟩
    split at q
    · rename_i hl
      obtain ⟨p', vs1, hσ1, ho1, hp1, r1⟩ := S1.own i ds hi
      rw [hσ] at hσ1; cases hσ1
      obtain ⟨S2, le⟩ := own_write (vs' := vs1 ++ [v]) (ds' := ds ++ [d]) S1 hi hσ ho hp1 (r1.append (.one rd))
      exact ⟨p, vs1, v, rfl, rfl, hp1, by rw [line_eq, r1.length]; exact hl, R.nx O _ c1 _ _ q ((lex_msk S l).trans le) S2⟩
    · exact q.elim
  · exact hm.elim
/-- an own list becomes plain data -/
theorem Stt.leak {K : En} {W : Wd} {O : Addr → Prop} {σ : L2.St} {H : Hp} {ρ : Rho} {c : Be} {ds : List D} (S : Stt K W O σ H ρ c) (hi : ρ[i]? = some (.own ds)) :
    ∃ O', Stt K W O' σ H (ρ.set i (.val (.lst ds))) c ∧ Le (msk (W.N O) H) (msk (W.N O') H) := by
  obtain ⟨p, vs, hσ, ho, hp, r⟩ := S.own i ds hi
  have np : W.H0 p = none := (S.oo p ho).1
  have nm : ¬ W.M0 p := fun h => by
    obtain ⟨o, q⟩ := S.m0 p h
    rw [np] at q; cases q
  have le : Le (msk (W.N O) H) (msk (W.N fun b => O b ∧ b ≠ p) H) := msk_up (fun _ _ _ h => h) fun b o h nb nb' => nb (by
    rcases nb' with h' | h'
    · exact .inl h'
    · exact .inr h'.1)
  refine ⟨fun b => O b ∧ b ≠ p, ⟨S.ex, S.m0, S.m1, fun b h => S.oo b h.1, S.bm, S.bn, S.bl, fun j a ob h1 h2 => (S.bo j a ob h1 h2).up le fun _ q => q, by rw [List.length_set]; exact S.len, fun j e hj => ?_, fun j es hj => ?_, fun j k es fs q hj hk sj sk => ?_, fun j n hj => ?_⟩, le⟩
  · by_cases q : i = j
    · subst q
      have z := set_val hj
      cases z
      refine ⟨.ref p, hσ, .lst (LsK.of ?_) (r.up le)⟩
      rw [msk_of (fun h => by
        rcases h with h | h
        · exact nm h
        · exact h.2 rfl)]
      exact hp
    · rw [List.getElem?_set_ne q] at hj
      obtain ⟨v, h1, h2⟩ := S.val j e hj
      exact ⟨v, h1, h2.up le⟩
  · by_cases q : i = j
    · subst q; have z := set_val hj; cases z
    · rw [List.getElem?_set_ne q] at hj
      obtain ⟨p', us, h1, h2, h3, h4⟩ := S.own j es hj
      exact ⟨p', us, h1, ⟨h2, fun e => by subst e; exact q (S.inj i j ds es p' hi hj hσ h1)⟩, h3, h4.up le⟩
  · have nj : i ≠ j := fun e => by subst e; have z := set_val hj; cases z
    have nk : i ≠ k := fun e => by subst e; have z := set_val hk; cases z
    rw [List.getElem?_set_ne nj] at hj
    rw [List.getElem?_set_ne nk] at hk
    exact S.inj j k es fs q hj hk sj sk
  · by_cases q : i = j
    · subst q; have z := set_val hj; cases z
    · rw [List.getElem?_set_ne q] at hj
      exact S.sto j n hj
theorem s_leak (h : PS X st (rdS X.en Z m)) : PS X st (rdS X.en Z (mLeak i m)) := h.imp fun D σ H ⟨W, O, ρ, c, C, S, hm, R⟩ => by
  unfold mLeak leakR at hm
  split at hm
  · rename_i ρ' q
    split at q
    · rename_i ds hi
      cases q
      obtain ⟨O', S', le⟩ := S.leak hi
      exact ⟨W, O', _, c, C, S', hm, R.later le⟩
    · cases q
  · exact hm.elim
end
abbrev MI := Rho → Be → Eo (List D)
def Yl (K : En) (G : Hp) (J : It) (ds : List D) : Prop := ∀ (N2 : Addr → Prop) (H2 : Hp), (∀ b, N2 b → ∃ o, H2 b = some o) → Le G (msk N2 H2) →
  (∀ i, i < ds.length → J.go i H2) ∧ J.stop ds.length H2 ∧ ∀ i x H3, J.yld i H2 x H3 → i < ds.length → ∃ d, ds[i]? = some d ∧ Le H2 H3 ∧ Dv K (msk N2 H3) x d
def rdI (K : En) (Z : WX) (m : MI) : TI := fun σ H R => ∃ W O ρ c P E, Stt K W O σ H ρ c ∧ (m ρ c).aft P E ∧ (∀ ds c' J H1, P ds c' → LeX W.bs H H1 → Stt K W O σ H1 ρ c' → Yl K (msk (W.N O) H1) J ds → R J H1) ∧ Xe K Z W O σ ρ H E
theorem _root_.L2.PI.imp {X : Cx} {tg e : Expr} {t t' : TI} (h : PI X tg e t) (i : ∀ σ H Q, t' σ H Q → t σ H Q) : PI X tg e t' := ⟨fun pins s σ H Q I q => h.run pins s σ H Q I (i σ H Q q)⟩
def iLst (m : ME) : MI := fun ρ c => (m ρ c).bind fun d c' => .opt (toL d) c'
def iTpl (m : ME) : MI := fun ρ c => (m ρ c).bind fun d c' => .opt (toT d) c'
def rng (lo : Int) (n : Nat) : List D := (List.range n).map fun (k : Nat) => D.int (lo + (k : Int))
def toR1 : List D → Option (List D)
  | [.int j] => if -(2 ^ 62) ≤ j ∧ j < 2 ^ 62 then some (rng 0 j.toNat) else none
  | _ => none
def iR1 (m : MA) : MI := fun ρ c => (m ρ c).bind fun ds c' => .opt (toR1 ds) c'
def zipD (ds es : List D) : List D := List.zipWith (fun a b => D.tup [a, b]) ds es
def toZp : List D → Option (List D)
  | [.lst ds, .lst es] => some (zipD ds es)
  | _ => none
def iZp (m : MA) : MI := fun ρ c => (m ρ c).bind fun ds c' => .opt (toZp ds) c'
def enumD (ds : List D) : List D := ds.zipIdx.map fun p => D.tup [.int (p.2 : Int), p.1]
def toEn : List D → Option (List D)
  | [.lst ds] => some (enumD ds)
  | _ => none
def iEn (m : MA) : MI := fun ρ c => (m ρ c).bind fun ds c' => .opt (toEn ds) c'
theorem zipD_get (ds es : List D) (i : Nat) (a b : D) (h1 : ds[i]? = some a) (h2 : es[i]? = some b) : (zipD ds es)[i]? = some (.tup [a, b]) := by
  unfold zipD
  rw [List.getElem?_zipWith, h1, h2]
section
variable {X : Cx} {Z : WX} {tg e : Expr} {me : ME} {ma : MA} {pos p : Pos}
theorem il_imp : ∀ σ H Q, rdI X.en Z (iLst me) σ H Q → iList X.K (rdE X.en Z me) σ H Q := fun σ H Q ⟨W, O, ρ, c, P, E, S, hm, k, kx⟩ =>
  ⟨W, O, ρ, c, _, E, S, (Eo.aft_bind ..).mp hm, fun d c1 v H1 p l S1 r => by
    obtain ⟨ds, ed, p⟩ := opt_some p
    have := toL_some ed
    subst this
    cases r with
    | lst hs hv =>
      rename_i a vs
      refine ⟨_, rfl, ⟨_, (lsk_mono msk_le hs).sq⟩, k ds c1 _ H1 p l S1 fun N2 H2 al le => ?_⟩
      have hs2 : SqL X.K H2 a vs := (lsk_mono (le.trans msk_le) hs).sq
      refine ⟨fun i hi => ?_, ⟨_, hs2, by rw [hv.length]; exact Nat.le_refl _⟩, fun i x H3 y hi => ?_⟩
      · obtain ⟨u, hu, _⟩ := hv.get (List.getElem?_eq_getElem hi)
        exact ⟨vs, u, hs2, hu⟩
      · obtain ⟨e3, y2⟩ := y
        subst e3
        obtain ⟨d', hd, hx⟩ := hv.get' (y2 vs hs2)
        exact ⟨d', hd, Le.refl _, hx.up le⟩, kx⟩
theorem it_imp : ∀ σ H Q, rdI X.en Z (iTpl me) σ H Q → iTup X.K (rdE X.en Z me) σ H Q := fun σ H Q ⟨W, O, ρ, c, P, E, S, hm, k, kx⟩ =>
  ⟨W, O, ρ, c, _, E, S, (Eo.aft_bind ..).mp hm, fun d c1 v H1 p l S1 r => by
    obtain ⟨ds, ed, p⟩ := opt_some p
    have := toT_some ed
    subst this
    cases r with
    | tup hs hv =>
      rename_i a vs
      refine ⟨_, rfl, ⟨_, sqt_mono msk_le hs⟩, k ds c1 _ H1 p l S1 fun N2 H2 al le => ?_⟩
      have hs2 : SqT X.K H2 a vs := sqt_mono (le.trans msk_le) hs
      refine ⟨fun i hi => ?_, ⟨_, hs2, by rw [hv.length]; exact Nat.le_refl _⟩, fun i x H3 y hi => ?_⟩
      · obtain ⟨u, hu, _⟩ := hv.get (List.getElem?_eq_getElem hi)
        exact ⟨vs, u, hs2, hu⟩
      · obtain ⟨e3, y2⟩ := y
        subst e3
        obtain ⟨d', hd, hx⟩ := hv.get' (y2 vs hs2)
        exact ⟨d', hd, Le.refl _, hx.up le⟩, kx⟩
theorem yl_rng {K : En} {G : Hp} (lo : Int) (n : Nat) : Yl K G (Itr lo n) (rng lo n) := fun N2 H2 al le => by
  have hl : (rng lo n).length = n := by unfold rng; rw [List.length_map, List.length_range]
  refine ⟨fun i hi => by rw [hl] at hi; exact hi, by show n ≤ (rng lo n).length; rw [hl]; exact Nat.le_refl _, fun i x H3 y hi => ?_⟩
  obtain ⟨e3, e4⟩ := y
  subst e3; subst e4
  rw [hl] at hi
  refine ⟨.int (lo + (i : Int)), ?_, Le.refl _, .int _⟩
  unfold rng
  rw [List.getElem?_map, List.getElem?_range hi]
  rfl
theorem i_r1 (h : PI X tg e (iRng1 (rdA X.en Z ma))) : PI X tg e (rdI X.en Z (iR1 ma)) := h.imp fun σ H Q ⟨W, O, ρ, c, P, E, S, hm, k, kx⟩ =>
  ⟨W, O, ρ, c, _, E, S, (Eo.aft_bind ..).mp hm, fun ds c1 vs H1 p l S1 r => by
    obtain ⟨es, ed, p⟩ := opt_some p
    unfold toR1 at ed
    split at ed
    · split at ed
      · rename_i hj
        cases ed
        cases r with
        | cons r1 r2 =>
          cases r1; cases r2
          exact ⟨_, rfl, hj.1, hj.2, k _ c1 _ H1 p l S1 (yl_rng 0 _)⟩
      · cases ed
    · (cases ed), kx⟩
theorem i_zip (h : PI X tg e (iZip X.K (rdA X.en Z ma))) : PI X tg e (rdI X.en Z (iZp ma)) := h.imp fun σ H Q ⟨W, O, ρ, c, P, E, S, hm, k, kx⟩ =>
  ⟨W, O, ρ, c, _, E, S, (Eo.aft_bind ..).mp hm, fun ds c1 vs H1 p l S1 r => by
    obtain ⟨es0, ed, p⟩ := opt_some p
    unfold toZp at ed
    split at ed
    · rename_i ds es
      cases ed
      cases r with
      | cons r1 r2 =>
        cases r2 with
        | cons r2 r3 =>
          cases r3
          cases r1 with
          | lst hs1 hv1 =>
            cases r2 with
            | lst hs2 hv2 =>
              rename_i a us b ws
              refine ⟨a, b, us, ws, rfl, (lsk_mono msk_le hs1).sq, (lsk_mono msk_le hs2).sq, k _ c1 _ H1 p l S1 fun N2 H2 al le => ?_⟩
              have g1 : SqL X.K H2 a us := (lsk_mono (le.trans msk_le) hs1).sq
              have g2 : SqL X.K H2 b ws := (lsk_mono (le.trans msk_le) hs2).sq
              have hl : (zipD ds es).length = min ds.length es.length := by unfold zipD; rw [List.length_zipWith]
              refine ⟨fun i hi => ?_, ⟨us, ws, g1, g2, by rw [hl, hv1.length, hv2.length]; omega⟩, fun i x H3 y hi => ?_⟩
              · rw [hl] at hi
                obtain ⟨u1, hu1, _⟩ := hv1.get (List.getElem?_eq_getElem (show i < ds.length by omega))
                obtain ⟨u2, hu2, _⟩ := hv2.get (List.getElem?_eq_getElem (show i < es.length by omega))
                exact ⟨us, ws, u1, u2, g1, g2, hu1, hu2⟩
              · obtain ⟨T, y1, y2, rfl, hT, rfl, q1, q2⟩ := y
                obtain ⟨d1, hd1, hx1⟩ := hv1.get' (q1 us g1)
                obtain ⟨d2, hd2, hx2⟩ := hv2.get' (q2 ws g2)
                refine ⟨.tup [d1, d2], zipD_get _ _ _ _ _ hd1 hd2, upd_le hT, .tup (SqT.of ?_) (.cons (hx1.up (le.trans (msk_mono (upd_le hT)))) (.cons (hx2.up (le.trans (msk_mono (upd_le hT)))) .nil))⟩
                rw [msk_of (fun h => by
                  obtain ⟨o, ho⟩ := al T h
                  rw [hT] at ho; cases ho), upd_same]
    · (cases ed), kx⟩
theorem i_enum (h : PI X tg e (iEnum X.K (rdA X.en Z ma))) : PI X tg e (rdI X.en Z (iEn ma)) := h.imp fun σ H Q ⟨W, O, ρ, c, P, E, S, hm, k, kx⟩ =>
  ⟨W, O, ρ, c, _, E, S, (Eo.aft_bind ..).mp hm, fun ds c1 vs H1 p l S1 r => by
    obtain ⟨es0, ed, p⟩ := opt_some p
    unfold toEn at ed
    split at ed
    · rename_i ds
      cases ed
      cases r with
      | cons r1 r2 =>
        cases r2
        cases r1 with
        | lst hs1 hv1 =>
          rename_i a us
          refine ⟨a, us, rfl, (lsk_mono msk_le hs1).sq, k _ c1 _ H1 p l S1 fun N2 H2 al le => ?_⟩
          have g1 : SqL X.K H2 a us := (lsk_mono (le.trans msk_le) hs1).sq
          have hl : (enumD ds).length = ds.length := by unfold enumD; rw [List.length_map, List.length_zipIdx]
          refine ⟨fun i hi => ?_, ⟨us, g1, by rw [hl, hv1.length]; exact Nat.le_refl _⟩, fun i x H3 y hi => ?_⟩
          · rw [hl] at hi
            obtain ⟨u1, hu1, _⟩ := hv1.get (List.getElem?_eq_getElem hi)
            exact ⟨us, u1, g1, hu1⟩
          · obtain ⟨T, y1, rfl, hT, rfl, q1⟩ := y
            obtain ⟨d1, hd1, hx1⟩ := hv1.get' (q1 us g1)
            refine ⟨.tup [.int (i : Int), d1], ?_, upd_le hT, .tup (SqT.of ?_) (.cons (.int _) (.cons (hx1.up (le.trans (msk_mono (upd_le hT)))) .nil))⟩
            · unfold enumD
              rw [List.getElem?_map, List.getElem?_zipIdx, hd1]
              simp
            · rw [msk_of (fun h => by
                obtain ⟨o, ho⟩ := al T h
                rw [hT] at ho; cases ho), upd_same]
    · (cases ed), kx⟩
end
def forF (g : MG) (mb : MS) : List D → Rho → Be → So
  | [], ρ, c => .nx ρ c
  | d :: ds, ρ, c => match g d ρ with
    | none => .no
    | some ρ1 => match mb ρ1 c with
      | .nx ρ2 c2 => forF g mb ds ρ2 c2
      | .ct ρ2 c2 => forF g mb ds ρ2 c2
      | .bk ρ2 c2 => .nx ρ2 c2
      | r => r
def mFor (mi : MI) (g : MG) (mb : MS) : MS := fun ρ c => .of (mi ρ c) ρ fun ds c' => forF g mb ds ρ c'
/-- so many turns are enough -/
def fuel : Nat := 10 ^ 100 * 10 ^ 100 * 10 ^ 100 * 10 ^ 100
def whileF (mt : MT) (mb : MS) : Nat → Rho → Be → So
  | 0, _, _ => .no
  | n + 1, ρ, c => match mt ρ c with
    | .ok true c1 => match mb ρ c1 with
      | .nx ρ2 c2 => whileF mt mb n ρ2 c2
      | .ct ρ2 c2 => whileF mt mb n ρ2 c2
      | .bk ρ2 c2 => .nx ρ2 c2
      | r => r
    | .ok false c1 => .nx ρ c1
    | .ex e c1 => .ex e ρ c1
    | .no => .no
def mWhile (mt : MT) (mb : MS) : MS := fun ρ c => whileF mt mb fuel ρ c
section
variable {X : Cx} {Z : WX} {st : Stmt} {mi : MI} {g : TG} {mg : MG} {mb : MS} {mt : MT}
theorem drop_cons {α : Type} {l : List α} {i : Nat} {x : α} (h : l[i]? = some x) : l.drop i = x :: l.drop (i + 1) := by
  obtain ⟨h1, h2⟩ := List.getElem?_eq_some_iff.mp h
  rw [List.drop_eq_getElem_cons h1, h2]
/-- what a turn of a loop wants -/
def turnC (C : Co) (k : Rho → Be → Prop) : Co := { C with nx := k, ct := k, bk := C.nx }
theorem s_for (h : PS X st (tFor (rdI X.en Z mi) g (rdS X.en Z mb))) (hg : RdG X.en g mg) : PS X st (rdS X.en Z (mFor mi mg mb)) := h.imp fun D σ H ⟨W, O, ρ, c, C, S, hm, R⟩ =>
  ⟨W, O, ρ, c, _, _, S, (So.aft_of ..).mp hm, fun ds c1 J H1 p l S1 y => by
    have R1 := R.later (lex_msk S l)
    refine ⟨fun i m σ' H' => m = ds.length - i ∧ i ≤ ds.length ∧ ∃ O' ρ' c', Stt X.en W O' σ' H' ρ' c' ∧ Le (msk (W.N O) H1) (msk (W.N O') H') ∧ (forF mg mb (ds.drop i) ρ' c').aft C,
      ⟨ds.length, rfl, Nat.zero_le _, O, ρ, c1, S1, Le.refl _, p⟩, ?_⟩
    rintro i m σ' H' ⟨rfl, hi, O', ρ', c', S', le, q⟩
    obtain ⟨y1, y2, y3⟩ := y (W.N O') H' S'.al le
    by_cases hlt : i < ds.length
    · refine .inr ⟨y1 i hlt, fun σ2 H2 => ∃ O' ρ' c', Stt X.en W O' σ2 H2 ρ' c' ∧ Le (msk (W.N O) H1) (msk (W.N O') H2) ∧ (forF mg mb (ds.drop (i + 1)) ρ' c').aft C, fun σ2 H2 z => ⟨ds.length - (i + 1), by omega, rfl, hlt, z⟩, fun x H3 yx => ?_⟩
      obtain ⟨d, hd, le3, hx⟩ := y3 i x H3 yx hlt
      rw [drop_cons hd] at q
      have S3 := S'.up le3
      have q0 : (match mg d ρ' with
        | none => So.no
        | some ρ1 => match mb ρ1 c' with
          | .nx ρ2 c2 => forF mg mb (ds.drop (i + 1)) ρ2 c2
          | .ct ρ2 c2 => forF mg mb (ds.drop (i + 1)) ρ2 c2
          | .bk ρ2 c2 => .nx ρ2 c2
          | r => r).aft C := q
      cases e1 : mg d ρ' with
      | none => rw [e1] at q0; exact q0.elim
      | some ρ1 =>
        rw [e1] at q0
        refine hg W O' σ' H3 ρ' ρ1 c' d x _ S3 hx e1 fun σ4 S4 => ?_
        have le4 : Le (msk (W.N O) H1) (msk (W.N O') H3) := le.trans (msk_mono le3)
        have q4 : (mb ρ1 c').aft (turnC C fun ρ2 c2 => (forF mg mb (ds.drop (i + 1)) ρ2 c2).aft C) := by
          cases e2 : mb ρ1 c' <;> (simp only [e2] at q0) <;> exact q0
        exact ⟨W, O', ρ1, c', _, S4, q4, ⟨fun O5 ρ5 c5 σ5 H5 q5 l5 S5 => ⟨O5, ρ5, c5, S5, le4.trans l5, q5⟩, R.rt, fun O5 ρ5 c5 σ5 H5 q5 l5 S5 => R1.nx O5 ρ5 c5 σ5 H5 q5 (le4.trans l5) S5, fun O5 ρ5 c5 σ5 H5 q5 l5 S5 => ⟨O5, ρ5, c5, S5, le4.trans l5, q5⟩,
          fun e O5 ρ5 c5 σ5 H5 cls dx q5 l5 S5 x5 => R1.ex e O5 ρ5 c5 σ5 H5 cls dx q5 (le4.trans l5) S5 x5⟩⟩
    · have e : i = ds.length := by omega
      subst e
      rw [List.drop_length] at q
      exact .inl ⟨y2, R1.nx O' ρ' c' σ' H' q le S'⟩, R.xe S⟩
theorem s_while (h : PS X st (tWhile (rdT X.en Z mt) (rdS X.en Z mb))) : PS X st (rdS X.en Z (mWhile mt mb)) := h.imp fun D σ H ⟨W, O, ρ, c, C, S, hm, R⟩ => by
  refine ⟨fun n σ' H' => ∃ O' ρ' c', Stt X.en W O' σ' H' ρ' c' ∧ Le (msk (W.N O) H) (msk (W.N O') H') ∧ (whileF mt mb n ρ' c').aft C, ⟨fuel, O, ρ, c, S, Le.refl _, hm⟩, ?_⟩
  rintro n σ' H' ⟨O', ρ', c', S', le, w⟩
  cases n with
  | zero => exact w.elim
  | succ n =>
    have R' := R.later le
    have w2 : (mt ρ' c').aft (fun b c1 => match b with
        | true => (mb ρ' c1).aft (turnC C fun ρ2 c2 => (whileF mt mb n ρ2 c2).aft C)
        | false => C.nx ρ' c1) (fun e c1 => C.ex e ρ' c1) := by
      unfold whileF at w
      cases e1 : mt ρ' c' with
      | ok b c1 =>
        rw [e1] at w
        cases b with
        | true =>
          show (mb ρ' c1).aft _
          cases e2 : mb ρ' c1 <;> (simp only [e2] at w) <;> exact w
        | false => exact w
      | ex e c1 => rw [e1] at w; exact w
      | no => rw [e1] at w; exact w
    refine ⟨W, O', ρ', c', _, _, S', w2, fun b c1 H1 p l S1 => ?_, R'.xe S'⟩
    have le1 := le.trans (lex_msk S' l)
    cases b with
    | true =>
      refine ⟨fun σ2 H2 => ∃ O' ρ' c', Stt X.en W O' σ2 H2 ρ' c' ∧ Le (msk (W.N O) H) (msk (W.N O') H2) ∧ (whileF mt mb n ρ' c').aft C, fun σ2 H2 z => ⟨n, Nat.lt_succ_self n, z⟩, W, O', ρ', c1, _, S1, p, ⟨fun O5 ρ5 c5 σ5 H5 q5 l5 S5 => ⟨O5, ρ5, c5, S5, le1.trans l5, q5⟩, R.rt, fun O5 ρ5 c5 σ5 H5 q5 l5 S5 => R.nx O5 ρ5 c5 σ5 H5 q5 (le1.trans l5) S5, fun O5 ρ5 c5 σ5 H5 q5 l5 S5 => ⟨O5, ρ5, c5, S5, le1.trans l5, q5⟩,
        fun e O5 ρ5 c5 σ5 H5 cls dx q5 l5 S5 x5 => R.ex e O5 ρ5 c5 σ5 H5 cls dx q5 (le1.trans l5) S5 x5⟩⟩
    | false => exact R.nx O' ρ' c1 σ' H1 p le1 S1
end
def mYes : MT := fun _ c => .ok true c
theorem t_yes {X : Cx} {Z : WX} : PTs X [] (rdT X.en Z mYes) := pts_nil.imp fun σ H Q ⟨W, O, ρ, c, P, E, S, hm, k, kx⟩ => k true c H hm LeX.refl S
def lcF (g : MG) (mt : MT) (me : ME) (ρ : Rho) : List D → List D → Be → Eo (List D)
  | [], acc, c => .ok acc c
  | d :: ds, acc, c => match g d ρ with
    | none => .no
    | some ρ1 => match mt ρ1 c with
      | .ok true c1 => match me ρ1 c1 with
        | .ok y c2 => lcF g mt me ρ ds (acc ++ [y]) c2
        | _ => .no
      | .ok false c1 => lcF g mt me ρ ds acc c1
      | _ => .no
def fewC (ds : List D) : Option (List D) := if ds.length ≤ 10000000 then some ds else none
theorem fewC_some {ds es : List D} (h : fewC ds = some es) : es = ds ∧ ds.length ≤ 10000000 := by
  unfold fewC at h
  split at h
  · cases h; exact ⟨rfl, by assumption⟩
  · cases h
def mLc (mi : MI) (g : MG) (mt : MT) (me : ME) (vs : List Nat) : MA := fun ρ c => (mi ρ c).bind fun ds c' => (Eo.opt (fewC ds) c').bind fun ds c' => lcF g mt me (wipeR ρ vs) ds [] c'
section
variable {X : Cx} {Z : WX} {e : Expr} {mi : MI} {g : TG} {mg : MG} {mt : MT} {me : ME} {vs : List Nat} {st : Stmt} {i : Nat}
/-- the reading of a comprehension, as of a new list -/
theorem lc_imp (hg : RdG X.en g mg) (hw : Hw g vs) : ∀ σ H Q, rdF X.en Z (mLc mi mg mt me vs) σ H Q → tLc (rdI X.en Z mi) g (rdT X.en Z0 mt) (rdE X.en Z0 me) vs σ H Q := fun σ H Q ⟨W, O, ρ, c, P, E, S, hm, k, kx⟩ =>
  ⟨W, O, ρ, c, _, E, S, (Eo.aft_bind ..).mp hm, fun ds c1 J H1 p l S1 y => by
    intro Dn hD
    obtain ⟨ds', hd', p⟩ := opt_some ((Eo.aft_bind ..).mp p)
    obtain ⟨e', hlen⟩ := fewC_some hd'
    rw [e'] at p
    obtain ⟨S2, nD⟩ := S1.fresh (o := .lst []) hD
    have nk : Dn ∉ W.bs := S1.nb nD
    refine ⟨fun i m Hc => m = ds.length - i ∧ i ≤ ds.length ∧ ∃ acc us c', LeX W.bs H1 Hc ∧ (∀ b, O b ∨ b = Dn → ∃ o, Hc b = some o) ∧ Le (msk (W.N O) H1) (msk (W.N fun b => O b ∨ b = Dn) Hc) ∧ BeIs X.en (msk (W.N fun b => O b ∨ b = Dn) Hc) Hc W.bs c' ∧
      Hc Dn = some (.lst us) ∧ DvAll X.en (msk (W.N fun b => O b ∨ b = Dn) Hc) us acc ∧ acc.length ≤ i ∧ (lcF mg mt me (wipeR ρ vs) (ds.drop i) acc c').aft P E,
      ⟨ds.length, rfl, Nat.zero_le _, [], [], c1, (upd_le hD).x, fun b h => (S2.oo b h).2, msk_new (K := X.en) (N := O) hD, S2.be, upd_same, .nil, Nat.le_refl _, p⟩, ?_⟩
    rintro i m Hc ⟨rfl, hi, acc, us, c', lx, al, le, be, hus, hacc, hla, q⟩
    have new : ∀ b, O b ∨ b = Dn → W.H0 b = none ∧ ∃ o, Hc b = some o := fun b h => ⟨(S2.oo b h).1, al b h⟩
    have Sc : Stt X.en W (fun b => O b ∨ b = Dn) σ Hc ρ c' := S1.move lx (fun b h => .inl h) new le be
    obtain ⟨y1, y2, y3⟩ := y (W.N fun b => O b ∨ b = Dn) Hc Sc.al le
    by_cases hlt : i < ds.length
    · refine .inr ⟨y1 i hlt, fun H5 => ∃ acc us c', LeX W.bs H1 H5 ∧ (∀ b, O b ∨ b = Dn → ∃ o, H5 b = some o) ∧ Le (msk (W.N O) H1) (msk (W.N fun b => O b ∨ b = Dn) H5) ∧ BeIs X.en (msk (W.N fun b => O b ∨ b = Dn) H5) H5 W.bs c' ∧
        H5 Dn = some (.lst us) ∧ DvAll X.en (msk (W.N fun b => O b ∨ b = Dn) H5) us acc ∧ acc.length ≤ i + 1 ∧ (lcF mg mt me (wipeR ρ vs) (ds.drop (i + 1)) acc c').aft P E, fun H5 z => ⟨ds.length - (i + 1), by omega, rfl, hlt, z⟩, fun x H3 yx => ?_⟩
      obtain ⟨d, hd, le3, hx⟩ := y3 i x H3 yx hlt
      rw [drop_cons hd] at q
      have S3 := (Sc.up le3).wipe vs
      refine hw x _ _ H3 _ (wipe_wipe σ vs) ?_
      have q0 : (match mg d (wipeR ρ vs) with
        | none => Eo.no
        | some ρ1 => match mt ρ1 c' with
          | .ok true c1 => match me ρ1 c1 with
            | .ok y c2 => lcF mg mt me (wipeR ρ vs) (ds.drop (i + 1)) (acc ++ [y]) c2
            | _ => .no
          | .ok false c1 => lcF mg mt me (wipeR ρ vs) (ds.drop (i + 1)) acc c1
          | _ => .no).aft P E := q
      cases e1 : mg d (wipeR ρ vs) with
      | none => rw [e1] at q0; exact q0.elim
      | some ρ4 =>
        rw [e1] at q0
        refine hg W _ (L2.wipe σ vs) H3 (wipeR ρ vs) ρ4 c' d x _ S3 hx e1 fun σ4 S4 => ?_
        have q4 : (mt ρ4 c').aft (fun b c1 => match b with
            | true => (me ρ4 c1).aft (fun y c2 => (lcF mg mt me (wipeR ρ vs) (ds.drop (i + 1)) (acc ++ [y]) c2).aft P E) (fun _ _ => False)
            | false => (lcF mg mt me (wipeR ρ vs) (ds.drop (i + 1)) acc c1).aft P E) (fun _ _ => False) := by
          cases e2 : mt ρ4 c' with
          | ok b c1 =>
            simp only [e2] at q0
            cases b with
            | true =>
              show (me ρ4 c1).aft _ _
              cases e3 : me ρ4 c1 <;> (simp only [e3] at q0) <;> exact q0
            | false => exact q0
          | ex e c1 => simp only [e2] at q0; exact q0
          | no => simp only [e2] at q0; exact q0
        refine ⟨W, _, ρ4, c', _, _, S4, q4, fun b c5 H5 q5 l5 S5 => ?_, fun _ _ _ _ _ z => z.elim⟩
        have lD5 : H5 Dn = some (.lst us) := l5 Dn _ nk (le3 Dn _ hus)
        have leO5 : Le (msk (W.N O) H1) (msk (W.N fun b => O b ∨ b = Dn) H5) := (le.trans (msk_mono le3)).trans (lex_msk S4 l5)
        have lx5 : LeX W.bs H1 H5 := (lx.trans le3.x).trans l5
        have hacc5 := hacc.up ((msk_mono le3).trans (lex_msk S4 l5))
        cases b with
        | true =>
          refine ⟨W, _, ρ4, c5, _, _, S5, q5, fun z c6 v H6 q6 l6 S6 r6 => ?_, fun _ _ _ _ _ z => z.elim⟩
          have lD6 : H6 Dn = some (.lst us) := l6 Dn _ nk lD5
          have le7 : Le (msk (W.N fun b => O b ∨ b = Dn) H6) (msk (W.N fun b => O b ∨ b = Dn) (upd H6 Dn (.lst (us ++ [v])))) := msk_up (fun b o nb h => by rw [upd_ne (fun e => nb (.inr (.inr e)))]; exact h) fun _ _ _ h => h
          refine ⟨us, lD6, by rw [line_eq, hacc.length]; omega, acc ++ [z], us ++ [v], c6, fun b o hb h => ?_, fun b h => ?_, ?_, S6.be.up le7 (fun a ha o q => ?_), upd_same, ?_, by rw [List.length_append]; show acc.length + 1 ≤ i + 1; omega, q6⟩
          · rw [upd_ne (fun e => by rw [e, hD] at h; cases h)]
            exact l6 b o hb (lx5 b o hb h)
          · by_cases e : b = Dn
            · exact ⟨_, by rw [e]; exact upd_same⟩
            · obtain ⟨o, ho⟩ := (S6.oo b h).2
              exact ⟨o, by rw [upd_ne e]; exact ho⟩
          · exact (leO5.trans (lex_msk S5 l6)).trans le7
          · rw [upd_ne (fun (e : a = Dn) => nk (by rw [← e]; exact ha))]; exact q
          · exact ((hacc5.up (lex_msk S5 l6)).up le7).append (.one (r6.up le7))
        | false => exact ⟨acc, us, c5, lx5, fun b h => (S5.oo b h).2, leO5, S5.be, lD5, hacc5, by omega, q5⟩
    · have e : i = ds.length := by omega
      subst e
      rw [List.drop_length] at q
      exact .inl ⟨y2, k acc c' Dn us Hc q (l.trans lx) (back_none S1 l hD) nD Sc hus hacc⟩, kx⟩
theorem f_lc (h : PE X e (tLc (rdI X.en Z mi) g (rdT X.en Z0 mt) (rdE X.en Z0 me) vs)) (hg : RdG X.en g mg) (hw : Hw g vs) : PE X e (rdF X.en Z (mLc mi mg mt me vs)) := h.imp (lc_imp hg hw)
theorem f_e_imp {m : MA} : ∀ σ H Q, rdE X.en Z (mOfL m) σ H Q → rdF X.en Z m σ H Q := fun σ H Q ⟨W, O, ρ, c, P, E, S, hm, k, kx⟩ =>
  ⟨W, O, ρ, c, _, E, S, (Eo.aft_bind ..).mp hm, fun ds c1 p vs H1 p1 l1 n0 n S1 hp r1 => k (.lst ds) c1 (.ref p) H1 p1 l1 (S.let_ l1 S1 n) (.lst (LsK.of (by rw [msk_of n]; exact hp)) (r1.up (msk_up (fun _ _ _ h => h) fun b o h nb nb' => nb (by
    rcases nb' with h' | h'
    · exact .inl h'
    · exact .inr (.inl h'))))), kx⟩
theorem s_set_lc (h : PS X st (tAsg (tLc (rdI X.en Z mi) g (rdT X.en Z0 mt) (rdE X.en Z0 me) vs) (gName i))) (hg : RdG X.en g mg) (hw : Hw g vs) : PS X st (rdS X.en Z (mSet i (mOfL (mLc mi mg mt me vs)))) :=
  s_set (h.imp fun D σ H q => lc_imp hg hw σ H _ (f_e_imp σ H _ q))
end
end GX
namespace GX
open PySem PySem.Spec PyProof.Rows L2
structure FnG (P : Program) (w : World) (K : PySem.W.Frag) (mg : Str → Option Value) (base : Heap) (k : Nat) (f : Addr) (fd : FuncData) (ps : List Str) (sp : Sp) : Prop where
  len : ∀ vs H Q E, sp vs H Q E → vs.length = ps.length
  run : ∀ (A : Around), A.guards = some [] → ∀ (outer : List Env) (s : Shared) (H : Hp) (args : Args) (us : List Value) (vs : List V) (Q : VK) (E : XK), Room k A → Env0 P w K mg base A outer s H → BindsTo s fd args (ps.zip us) → Vals vs us → sp vs H Q E →
    codeAny (model P w) A (.call (.ref f) args) (CR (L2.CX P w) outer P w H s Q E) s
section
variable {P : Program} {w : World} {K : PySem.W.Frag} {mg : Str → Option Value} {base : Heap} {k : Nat} {f : Addr} {fd : FuncData} {N ps : List Str} {sp : Sp}
theorem FnG.mono {j : Nat} (F : FnG P w K mg base j f fd ps sp) (h : j ≤ k) : FnG P w K mg base k f fd ps sp := ⟨F.len, fun A hg outer s H args us vs Q E hr => F.run A hg outer s H args us vs Q E (hr.mono h)⟩
/-- the rule for such a def -/
theorem fnG_of {x qual : Str} {params : Arguments} {body : List Stmt} {scope : Scope} (F : FunD K x qual params body scope [] [] f fd) (S : FnScope N ps scope) (len : ∀ vs H Q E, sp vs H Q E → vs.length = ps.length)
    (hbody : ∀ (cdv : Value) (A : Around), A.guards = some [] → ∀ (outer : List Env) (s : Shared) (H : Hp) (vs : List V) (Q : VK) (E : XK), Room k (A.deeper (envOfC qual scope s.heap.objs.size f cdv)) → sp vs H Q E →
      ∃ t, PSs (cxOf (L2.CX P w) P w K mg base N qual scope f cdv A outer s H E) body t ∧ t { nx := fun _ H' => Q .non H', rt := Q } (L2.start N vs) H) : FnG P w K mg base (k + 1) f fd ps sp := by
  obtain ⟨oc, od, dV, kV, doc, pm, an, cdv, ct, osl, rfl, lk, hcd, _, _⟩ := F.ex
  refine ⟨len, ?_⟩
  intro A hg outer s H args us vs Q E hr e0 hb r hsp
  have kept : ∀ b o, base.get? b = some o → s.heap.get? b = some o := fun b o e => (e0.bs b o e).1
  have names : ∀ y ∈ ps.zip us, scope.names.lookup y.1 = some .local ∨ (scope.names.lookup y.1 = some .cell ∧ ((cellsFrom (s.heap.objs.size + 1) scope.names []).lookup y.1).isSome = true) := by
    rintro ⟨n, v⟩ hy
    exact (S.par n (List.of_mem_zip hy).1).elim .inl fun q => .inr ⟨q, PySem.W.cellsFrom_some _ _ _ (.inl q)⟩
  have KX : K.In s.heap := e0.mod.kin.keeps kept
  refine codeAny_call_function hr.depth (KX _ _ lk) rfl S.co S.gen rfl (PySem.W.codeRec_of KX hcd) (hb _ _ _ _ ?_)
  refine wpAny_newFunctionEnv_cells S.kind names fun env he s1 x => ?_
  subst he
  refine ⟨(e0.mod.nolimit.keeps kept).keeps x.toInCall.keep, codeAny_func ?_⟩
  obtain ⟨t, ht, hq⟩ := hbody cdv A hg outer s H vs Q E (hr.deeper _) hsp
  have I := inv_start (CX := L2.CX P w) (E := E) S hr.hd e0 (len _ _ _ _ hsp) r x
  refine wpAny_mono (ht.run [] s1 (L2.start N vs) H _ I hq) ?_ fun e s' hs => hs
  intro fl s' hs
  cases fl with
  | ret u =>
    obtain ⟨v, σ', H', J, rv, q⟩ := hs
    exact ⟨v, H', J.os, J.bare, J.base, J.hok, rv, q⟩
  | next =>
    obtain ⟨σ', H', J, q⟩ := hs
    exact ⟨.non, H', J.os, J.bare, J.base, J.hok, rfl, q⟩
  | brk => exact hs.elim fun _ z => z.elim fun _ z => z.2.elim
  | cont => exact hs.elim fun _ z => z.elim fun _ z => z.2.elim
end
def rho0 (N : Nat) (ds : List D) : Rho := ds.map Sl.val ++ List.replicate (N - ds.length) .non
def So.res (s : So) : Eo D := match s with
  | .nx _ b => .ok .non b
  | .rt d b => .ok d b
  | .ex e _ b => .ex e b
  | _ => .no
def Eo.pure (r : Eo D) : Ro D := match r with
  | .ok d _ => .ok d
  | .ex e _ => .ex e
  | .no => .no
def fP (N n : Nat) (m : MS) : FP := fun ds => if ds.length = n then (m (rho0 N ds) []).res.pure else .no
theorem start_get {N : List Str} {vs : List V} {i : Nat} {v : V} (h : vs[i]? = some v) : (L2.start N vs)[i]? = some (some v) := by
  unfold L2.start
  have hl := (List.getElem?_eq_some_iff.mp h).1
  rw [List.getElem?_append_left (by rw [List.length_map]; exact hl), List.getElem?_map, h]
  rfl
theorem rho0_at {N : Nat} {ds : List D} {i : Nat} {s : Sl} (h : (rho0 N ds)[i]? = some s) : (∃ d, s = .val d ∧ ds[i]? = some d) ∨ s = .non := by
  unfold rho0 at h
  by_cases l : i < ds.length
  · rw [List.getElem?_append_left (by rw [List.length_map]; exact l), List.getElem?_map] at h
    cases q : ds[i]? with
    | none => rw [q] at h; cases h
    | some e =>
      rw [q] at h
      cases h
      exact .inl ⟨e, rfl, rfl⟩
  · rw [List.getElem?_append_right (by rw [List.length_map]; omega)] at h
    have := List.mem_of_getElem? h
    rw [List.mem_replicate] at this
    exact .inr this.2
theorem rho0_len {N : Nat} {ds : List D} (h : ds.length ≤ N) : (rho0 N ds).length = N := by
  unfold rho0
  rw [List.length_append, List.length_map, List.length_replicate]
  omega
/-- the state at an entry: lent objects first, then data -/
theorem start_stt {K : En} {N : List Str} {H : Hp} {M : Addr → Prop} {as : List Addr} {bs : Be} {ws : List V} {ds : List D} (hn : as.length + ds.length ≤ N.length) (al : ∀ b, M b → ∃ o, H b = some o) (hM : ∀ a ∈ as, M a) (nd : as.Nodup) (be : BeIs K (msk M H) H as bs) (hv : DvAll K (msk M H) ws ds) :
    Stt K ⟨H, M, as⟩ (fun _ => False) (L2.start N (as.map V.ref ++ ws)) H ((List.range as.length).map Sl.ref ++ rho0 (N.length - as.length) ds) bs := by
  have le : Le (msk M H) (msk ((⟨H, M, as⟩ : Wd).N fun _ => False) H) := msk_up (fun _ _ _ h => h) fun b o h nb nb' => by
    rcases nb' with z | z
    · exact nb z
    · exact z
  have slot : ∀ (i : Nat) (s : Sl), ((List.range as.length).map Sl.ref ++ rho0 (N.length - as.length) ds)[i]? = some s → (i < as.length ∧ s = .ref i) ∨ (as.length ≤ i ∧ (rho0 (N.length - as.length) ds)[i - as.length]? = some s) := by
    intro i s h
    by_cases l : i < as.length
    · rw [List.getElem?_append_left (by rw [List.length_map, List.length_range]; exact l), List.getElem?_map, List.getElem?_range l] at h
      cases h
      exact .inl ⟨l, rfl⟩
    · rw [List.getElem?_append_right (by rw [List.length_map, List.length_range]; omega), List.length_map, List.length_range] at h
      exact .inr ⟨by omega, h⟩
  refine ⟨LeX.refl, al, al, fun b h => h.elim, hM, nd, be.len, fun j a ob h1 h2 => (be.get j a ob h1 h2).up le fun _ q => q, ?_, fun i d hi => ?_, fun i es hi => ?_, fun i j es fs p hi => ?_, fun i j hi => ?_⟩
  · rw [List.length_append, rho0_len (by omega), List.length_map, List.length_range]
    unfold L2.start
    rw [List.length_append, List.length_map, List.length_replicate, List.length_append, List.length_map, hv.length]
    omega
  · rcases slot i _ hi with ⟨_, e⟩ | ⟨l, h⟩
    · cases e
    · rcases rho0_at h with ⟨d', e, hd⟩ | e
      · cases e
        obtain ⟨v, h1, h2⟩ := hv.get hd
        refine ⟨v, start_get ?_, h2.up le⟩
        rw [List.getElem?_append_right (by rw [List.length_map]; exact l), List.length_map]
        exact h1
      · cases e
  · rcases slot i _ hi with ⟨_, e⟩ | ⟨l, h⟩
    · cases e
    · rcases rho0_at h with ⟨d', e, hd⟩ | e <;> cases e
  · rcases slot i _ hi with ⟨_, e⟩ | ⟨l, h⟩
    · cases e
    · rcases rho0_at h with ⟨d', e, hd⟩ | e <;> cases e
  · rcases slot i _ hi with ⟨l, e⟩ | ⟨l, h⟩
    · cases e
      refine ⟨as[i], List.getElem?_eq_getElem l, start_get ?_⟩
      rw [List.getElem?_append_left (by rw [List.length_map]; exact l), List.getElem?_map, List.getElem?_eq_getElem l]
      rfl
    · rcases rho0_at h with ⟨d', e, hd⟩ | e <;> cases e
theorem start_pure {K : En} {N : List Str} {H : Hp} {M : Addr → Prop} {vs : List V} {ds : List D} (hn : ds.length ≤ N.length) (al : ∀ b, M b → ∃ o, H b = some o) (hv : DvAll K (msk M H) vs ds) :
    Stt K ⟨H, M, []⟩ (fun _ => False) (L2.start N vs) H (rho0 N.length ds) [] := by
  have := start_stt (K := K) (N := N) (as := []) (bs := []) (by simpa using hn) al (fun a h => nomatch h) .nil ⟨rfl, fun j a ob h => by simp at h⟩ hv
  simpa using this
section
variable {P : Program} {w : World} {K : PySem.W.Frag} {mg : Str → Option Value} {base : Heap} {x qual : Str} {params : Arguments} {body : List Stmt} {scope : Scope} {f : Addr} {fd : FuncData} {N ps : List Str} {k n : Nat} {m : MS}
/-- the wish of a def's body -/
abbrev zOf (E : XK) : WX := fun cls d _ H => E cls d H
/-- a pure def -/
theorem fn_pureG (F : FunD K x qual params body scope [] [] f fd) (S : FnScope N ps scope) (hps : ps.length ≤ N.length)
    (hbody : ∀ (cdv : Value) (A : Around), A.guards = some [] → ∀ (outer : List Env) (s : Shared) (H : Hp) (E : XK), Room k (A.deeper (envOfC qual scope s.heap.objs.size f cdv)) →
      Takes (cxOf (L2.CX P w) P w K mg base N qual scope f cdv A outer s H E) (zOf E) → PassesOwn (model P w) (A.deeper (envOfC qual scope s.heap.objs.size f cdv)) (envOfC qual scope s.heap.objs.size f cdv) (cxOf (L2.CX P w) P w K mg base N qual scope f cdv A outer s H E).xe →
      PSs (cxOf (L2.CX P w) P w K mg base N qual scope f cdv A outer s H E) body (rdS ⟨K, mg⟩ (zOf E) m)) :
    FnG P w K mg base (k + 1) f fd ps (spP ⟨K, mg⟩ (fP N.length ps.length m)) := by
  have len : ∀ vs H Q E, spP ⟨K, mg⟩ (fP N.length ps.length m) vs H Q E → vs.length = ps.length ∧ ∃ M ds, (∀ b, M b → ∃ o, H b = some o) ∧ DvAll ⟨K, mg⟩ (msk M H) vs ds ∧ ds.length = ps.length ∧
      (m (rho0 N.length ds) []).res.aft (fun d _ => ∀ v H', Le H H' → Dv ⟨K, mg⟩ (msk M H') v d → Q v H') (fun e _ => ∀ cls dx H', Le H H' → XcIs ⟨K, mg⟩ (msk M H') e cls dx → E cls dx H') := by
    intro vs H Q E h
    obtain ⟨M, ds, al, hv, hf⟩ := h
    unfold fP at hf
    split at hf
    · rename_i hl
      refine ⟨by rw [hv.length, hl], M, ds, al, hv, hl, ?_⟩
      cases q : (m (rho0 N.length ds) []).res <;> rw [q] at hf <;> exact hf
    · exact hf.elim
  refine fnG_of F S (fun vs H Q E h => (len vs H Q E h).1) (fun cdv A hg outer s H vs Q E hr h => ⟨rdS ⟨K, mg⟩ (zOf E) m, hbody cdv A hg outer s H E hr (takes_of rfl rfl rfl rfl) (passes_of rfl), ?_⟩)
  obtain ⟨_, M, ds, al, hv, hl, hf⟩ := len vs H Q E h
  refine ⟨⟨H, M, []⟩, fun _ => False, rho0 N.length ds, [], ⟨fun _ _ => ∀ v H', Le H H' → Dv ⟨K, mg⟩ (msk M H') v .non → Q v H', fun d _ => ∀ v H', Le H H' → Dv ⟨K, mg⟩ (msk M H') v d → Q v H', fun _ _ => False, fun _ _ => False, fun e _ _ => ∀ cls dx H', Le H H' → XcIs ⟨K, mg⟩ (msk M H') e cls dx → E cls dx H'⟩,
    start_pure (by rw [hl]; exact hps) al hv, ?_, ⟨fun O' ρ' c' σ' H' q l S' => ?_, fun d c' v H' q r => ?_, fun _ _ _ _ _ q => q.elim, fun _ _ _ _ _ q => q.elim, fun e O' ρ' c' σ' H' cls dx q l S' xx => ?_⟩⟩
  · cases q : m (rho0 N.length ds) [] <;> rw [q] at hf <;> exact hf
  · exact q .non H' (fun b o h => S'.ex b o (fun e => nomatch e) h) .non
  · exact q v H' (fun b o h => r.1 b o (fun e => nomatch e) h) r.2.2
  · exact q cls dx H' (fun b o h => S'.ex b o (fun e => nomatch e) h) (xx.up (msk_up (fun _ _ _ h => h) fun b o h nb nb' => nb (.inl nb')))
end
/-- what a caller needs of a def -/
structure Card (P : Program) (w : World) (K : PySem.W.Frag) (mg : Str → Option Value) (base : Heap) (x : Str) (ps : List Str) (k : Nat) (sp : Sp) : Prop where
  ex : ∃ f fd, FnG P w K mg base k f fd ps sp ∧ mg x = some (.ref f) ∧ PySem.W.keepIn K (.ref f) = true ∧ (∀ us : List Value, us.length = ps.length → bindArgs fd ⟨us, []⟩ = pure (ps.zip us))
/-- an exception of a callee is taken -/
abbrev Pz (X : Cx) (Z : WX) : Prop := ∀ σ, PassesAt (L2.CX X.prog X.w) X σ (WE Z σ)
theorem pz0 {X : Cx} : Pz X Z0 := fun σ pins H s e s' I ⟨_, _, _, _, _, _, _, _, _, _, _, _, h⟩ => h.elim
theorem pz_of {X : Cx} {Z : WX} (tk : Takes X Z) : Pz X Z := fun σ => passAt tk σ
section
variable {X : Cx} {Z : WX} {k j : Nat} {ps : List Str} {x : Str} {p pos : Pos} {e : Expr} {es : List Expr} {m : MA} {F : FP} {G : FN} {sp : Sp} {t : TA}
theorem run_card {pins : List (Addr × Obj)} {σ : L2.St} {H : Hp} {s : Shared} {Q : VK} {args : Args} {us : List Value} {vs : List V} {f : Addr} {fd : FuncData} (hF : FnG X.prog X.w X.K X.mg X.base k f fd ps sp) (hr : Room k X.A) (hG : X.A.guards = some []) (hx : Pz X Z)
    (hb : bindArgs fd args = pure (ps.zip us)) (I : Inv X pins σ H s) (r : Vals vs us) (h : sp vs H Q (WE Z σ)) : codeAny (model X.prog X.w) X.A (.call (.ref f) args) (fun r s' => match r with | .ok (.ret u) => EP X pins σ Q u s' | .ok _ => False | .error e => X.xe e s') s := by
  refine codeAny_mono (hF.run X.A hG X.stack s H args us vs Q (WE Z σ) hr I.env0 (.of_eq hb) r h) ?_
  intro z s' hq
  cases z with
  | error e => exact hx σ pins H s e s' I hq
  | ok fl =>
    cases fl with
    | ret u => exact I.after hq
    | next => exact hq.elim
    | brk => exact hq.elim
    | cont => exact hq.elim
theorem run_card' {pins : List (Addr × Obj)} {σ : L2.St} {H : Hp} {s : Shared} {Q : VK} {us : List Value} {vs : List V} {f : Addr} {fd : FuncData} (hF : FnG X.prog X.w X.K X.mg X.base k f fd ps sp) (hr : Room k X.A) (hG : X.A.guards = some []) (hx : Pz X Z)
    (hb : ∀ us : List Value, us.length = ps.length → bindArgs fd ⟨us, []⟩ = pure (ps.zip us)) (I : Inv X pins σ H s) (r : Vals vs us) (h : sp vs H Q (WE Z σ)) : wpAny (model X.prog X.w) X.A (call (.ref f) us) (EP X pins σ Q) X.xe s := by
  have hl : us.length = ps.length := by rw [← r.length]; exact hF.len _ _ _ _ h
  refine wpAny_call (codeAny_mono (run_card hF hr hG hx (hb us hl) I r h) ?_)
  intro z s' hq
  cases z with
  | error e => exact hq
  | ok fl =>
    cases fl with
    | ret u => exact hq
    | next => exact hq.elim
    | brk => exact hq.elim
    | cont => exact hq.elim
theorem pe_card (C : Card X.prog X.w X.K X.mg X.base x ps j sp) (hr : Room k X.A) (hj : j ≤ k) (hG : X.A.guards = some []) (hx : Pz X Z) (hg : Gl X x)
    (ha : PA X (e :: es) t) (hdb : (x == ("__debug__" : Str)) = false := by decide) (he : starEach (e :: es) X.env = (false, eval e X.env) :: starEach es X.env := by rfl) (hpl : (backTo pos (starEach es X.env)).any (·.1) = false := by rfl) :
    PE X (.Call (.Name x p) (e :: es) [] pos) (tCallS sp (WE Z) t) := by
  obtain ⟨f, fd, hF, hm, hk, hb⟩ := C.ex
  refine ⟨fun pins s σ H Q I h => ?_⟩
  refine wpAny_Call_Name_kw (ld_glob I hg hm ?_ hdb)
  refine PySem.W.callWith_K (h₀ := X.base) I.ok.mod.kin hk (thn (ha.run pos pins s σ H _ I h) fun us s1 hh => ?_) he hpl
  obtain ⟨vs, H1, I1, r, q⟩ := hh
  exact ⟨I1.kIn, run_card' (hF.mono hj) hr hG hx hb I1 r q⟩
theorem e_card (C : Card X.prog X.w X.K X.mg X.base x ps j (spP X.en F)) (hr : Room k X.A) (hj : j ≤ k) (hG : X.A.guards = some []) (hx : Pz X Z) (hg : Gl X x)
    (ha : PA X (e :: es) (rdA X.en Z m)) (hdb : (x == ("__debug__" : Str)) = false := by decide) (he : starEach (e :: es) X.env = (false, eval e X.env) :: starEach es X.env := by rfl) (hpl : (backTo pos (starEach es X.env)).any (·.1) = false := by rfl) :
    PE X (.Call (.Name x p) (e :: es) [] pos) (rdE X.en Z (mCall F m)) := (pe_card C hr hj hG hx hg ha hdb he hpl).imp pure_imp
end
section
variable {P : Program} {w : World} {K : PySem.W.Frag} {mg : Str → Option Value} {base : Heap} {x x0 qual : Str} {params : Arguments} {body : List Stmt} {scope : Scope} {f : Addr} {fd : FuncData} {ps : List Str} {k : Nat} {sp : Sp}
theorem fd_none (F : FunD K x0 qual params body scope [] [] f fd) {R : FuncData → Prop} (h : ∀ (kV doc pm : Value) (an : Option Addr) (cdv ct : Value), R (PySem.W.fnOf x0 qual params body scope .none kV doc pm an cdv ct)) : R fd := by
  obtain ⟨oc, od, dV, kV, doc, pm, an, cdv, ct, osl, rfl, lk, hcd, hD, hK⟩ := F.ex
  rcases hD with ⟨_, rfl⟩ | ⟨e, _⟩
  · exact h kV doc pm an cdv ct
  · exact absurd rfl e
theorem card_of (F : FunD K x0 qual params body scope [] [] f fd) (hF : FnG P w K mg base k f fd ps sp) (hm : mg x = some (.ref f))
    (hb : ∀ (kV doc pm : Value) (an : Option Addr) (cdv ct : Value) (us : List Value), us.length = ps.length → bindArgs (PySem.W.fnOf x0 qual params body scope .none kV doc pm an cdv ct) ⟨us, []⟩ = pure (ps.zip us)) : Card P w K mg base x ps k sp :=
  ⟨f, fd, hF, hm, F.kp, fd_none F (R := fun fd => ∀ us : List Value, us.length = ps.length → bindArgs fd ⟨us, []⟩ = pure (ps.zip us)) hb⟩
/-- the values that stand at the places is -/
def perm {α : Type} (is : List Nat) (l : List α) : List α := is.filterMap fun i => l[i]?
end
section
variable {X : Cx} {Z : WX} {k j : Nat} {ps ks : List Str} {x : Str} {nm : Option Str} {p pos kpos : Pos} {e : Expr} {kws : List Keyword} {m : ME} {mr mA : MA} {F : FP} {sp : Sp} {is : List Nat}
end
/-- a module's constant, its token unknown -/
theorem e_globx {X : Cx} {Z : WX} {x : Str} {i : Int} {pos : Pos} (hg : Gl X x) (hm : ∃ t, X.mg x = some (.int i t)) (hd : (x == ("__debug__" : Str)) = false := by decide) : PE X (.Name x pos) (rdE X.en Z (mC (.int i))) := by
  obtain ⟨t, hm⟩ := hm
  exact e_leaf (pe_glob (v := .int i) hg hm ⟨t, rfl⟩ hd) fun _ => .int i
/-- a built-in type as a value -/
theorem e_ty {X : Cx} {Z : WX} {x : Str} {n : String} {pos : Pos} (hg : Gl X x) (hm : X.mg x = none) (hv : bootBuiltins x = some (.type n)) (hn : x ≠ "__name__" := by decide) (hd : (x == ("__debug__" : Str)) = false := by decide) : PE X (.Name x pos) (rdE X.en Z (mC (.ty n))) :=
  e_leaf (pe_bltn (v := .ty n) hg hm hv rfl hn hd) fun _ => .ty n
theorem hu100 {k : Nat} {A : Around} (hr : Room k A) : A.units + 100 < cLine := by have := hr.un; omega
end GX
namespace GX
open PySem PySem.Spec PyProof.Rows L2
section
variable {X : Cx} {Z : WX} {e o ix : Expr} {st : Stmt} {m : ME} {i j k : Nat} {pos : Pos} {kk : Nat} {p2 : Pos}
end
abbrev FF := List D → Ro (List D)
section
variable {X : Cx} {Z : WX} {st : Stmt} {rest : List Stmt} {m m1 : MS} {r : MA}
end
section
variable {P : Program} {w : World} {K : PySem.W.Frag} {mg : Str → Option Value} {base : Heap} {x qual : Str} {params : Arguments} {body : List Stmt} {scope : Scope} {f : Addr} {fd : FuncData} {N ps : List Str} {k n : Nat} {m : MS} {r : MA}
end
section
variable {X : Cx} {Z : WX} {st : Stmt} {rest : List Stmt} {m1 m2 : MS} {ma : MA} {F : FF} {i : Nat}
end
end GX
namespace GX
open PySem PySem.Spec PyProof.Rows L2
theorem lsk_at {X : Cx} {pins : List (Addr × Obj)} {σ : L2.St} {H : Hp} {s : Shared} {a : Addr} {xs : List V} (I : Inv X pins σ H s) (h : LsK X.en H a xs) : ∃ (its : List Value) (n : Nat), Vals xs its ∧ s.heap.get? a = some { cls := .type "list", data := .seq its.toArray n } := by
  rcases h with (h | ⟨o, h⟩) | ⟨its, n, h1, h2, h3⟩
  · obtain ⟨_, its, n, r, e⟩ := I.hok a _ h
    exact ⟨its, n, r, e⟩
  · obtain ⟨_, _, its, n, r, e⟩ := I.hok a _ h
    exact ⟨its, n, r, e⟩
  · exact ⟨its.toList, n, h3, by rw [Array.toArray_toList]; exact I.kIn a _ h1⟩
def rCatL (K : En) : R2 := fun x y H Q => ∃ l b xs zs, x = .ref l ∧ y = .ref b ∧ LsK K H l xs ∧ LsK K H b zs ∧ xs.length + zs.length ≤ sizeLine ∧ ∀ p, H p = none → Q (.ref p) (upd H p (.lst (xs ++ zs)))
theorem op_catL {X : Cx} : OpR X (binaryOp .Add) (rCatL X.en) := by
  intro pins s σ H x y v u Q I rx ry h
  obtain ⟨l, b, xs, zs, rfl, rfl, h1, h2, few, q⟩ := h
  cases rx
  cases ry
  obtain ⟨us, n, r, e⟩ := lsk_at I h1
  obtain ⟨us2, n2, r2, e2⟩ := lsk_at I h2
  have fit : (xs ++ zs).length ≤ sizeLine := List.length_append ▸ few
  have l1 := r.length
  have l2 := r2.length
  apply PySem.P.add_list e e2
  · rw [List.append_toArray]
    exact ⟨.ref s.heap.objs.size, _, I.lnew (t' := s.toks) (r.append r2) fit, rfl, q _ I.fresh⟩
def catD (d e : D) : Option (List D) := match d, e with
  | .lst ds, .lst es => if ds.length + es.length ≤ 16777216 then some (ds ++ es) else none
  | _, _ => none
def mCat (ma mb : ME) : MA := fun ρ c => (ma ρ c).bind fun d c1 => (mb ρ c1).bind fun e c2 => .opt (catD d e) c2
section
variable {X : Cx} {Z : WX} {a b e : Expr} {ma mb : ME} {mA : MA} {pos : Pos}
theorem f_cat (ha : PE X a (rdV X.en Z ma)) (hb : PE X b (rdV X.en Z mb)) : PE X (.BinOp a .Add b pos) (rdF X.en Z (mCat ma mb)) := (pe_op op_catL ha hb).imp fun σ H Q ⟨W, O, ρ, c, P, E, S, hm, k, kx⟩ =>
  ⟨W, O, ρ, c, _, E, S, (Eo.aft_bind ..).mp hm, fun d c1 v H1 p1 l1 S1 r1 => ⟨W, O, ρ, c1, _, E, S1, (Eo.aft_bind ..).mp p1, fun e c2 u H2 p2 l2 S2 r2 => by
    obtain ⟨zs, ez, p3⟩ := opt_some p2
    unfold catD at ez
    split at ez
    · split at ez
      · rename_i hl
        cases ez
        obtain ⟨p, vs, ev, hs, hv⟩ := (r1.later S1 l2).listK
        obtain ⟨p', us, eu, hs', hu⟩ := r2.listK
        refine ⟨p, p', vs, us, ev, eu, hs, hs', by rw [line_eq, hv.length, hu.length]; exact hl, fun q hq => ?_⟩
        obtain ⟨S4, n⟩ := S2.fresh (o := .lst (vs ++ us)) hq
        exact k _ c2 q _ _ p3 ((l1.trans l2).trans (upd_le hq).x) (back_none S2 (l1.trans l2) hq) n S4 upd_same ((hv.append hu).up (msk_new (K := X.en) (N := O) hq))
      · cases ez
    · (cases ez), kx.later l1⟩, kx⟩
end
def pr (p : Int × Int) : D := .tup [.int p.1, .int p.2]
def prs (ps : List (Int × Int)) : List D := ps.map pr
/-- the order of pairs -/
def plt (p q : Int × Int) : Prop := p.1 < q.1 ∨ (p.1 = q.1 ∧ p.2 < q.2)
def pairPy (p : Int × Int) : PyData := .tuple [.int p.1, .int p.2]
theorem pr_py (p : Int × Int) : (pr p).py = pairPy p := by simp [pr, D.py, D.pys, pairPy]
theorem prs_py (ps : List (Int × Int)) : D.pys (prs ps) = ps.map pairPy := by
  induction ps with
  | nil => simp [prs, D.pys]
  | cons p ps ih =>
    show D.pys (pr p :: prs ps) = _
    rw [D.pys, pr_py, ih]; rfl
theorem pr_plain (p : Int × Int) : (pr p).plain = true := by simp [pr, D.plain, D.plains]
theorem prs_plain (ps : List (Int × Int)) : D.plains (prs ps) = true := by
  induction ps with
  | nil => simp [prs, D.plains]
  | cons p ps ih =>
    show D.plains (pr p :: prs ps) = _
    rw [D.plains, pr_plain, ih]; rfl
theorem alike_pairs (ps : List (Int × Int)) : PySem.W.AllAlike (ps.map pairPy) := by
  intro d hd e he
  obtain ⟨p, _, rfl⟩ := List.mem_map.mp hd
  obtain ⟨q, _, rfl⟩ := List.mem_map.mp he
  simp [pairPy, PySem.W.alike, PySem.W.alikeAll]
theorem depth_pair (p : Int × Int) : (pairPy p).depth ≤ 3 := by simp [pairPy, PyData.depth, PyData.depthAll]
def k2 (k : List Int) : Int × Int := (k.getD 0 0, k.getD 1 0)
section
variable {α : Type} {f : α → Value}
end
section
variable {P : Program} {w : World} {A : Around} {E : Value → Shared → Prop} {s : Shared}
end
instance (p q : Int × Int) : Decidable (plt p q) := by unfold plt; infer_instance
theorem plt_irr {a : Int × Int} : ¬ plt a a := by unfold plt; omega
theorem plt_trans {a b c : Int × Int} (h : plt a b) (k : plt b c) : plt a c := by unfold plt at *; omega
theorem plt_tri {a b : Int × Int} (h : ¬ plt a b) (k : ¬ plt b a) : a = b := by unfold plt at *; exact Prod.ext (by omega) (by omega)
/-- a list of pairs, read off the data -/
def pr? : D → Option (Int × Int)
  | .tup [.int a, .int b] => some (a, b)
  | _ => none
def prs? : List D → Option (List (Int × Int))
  | [] => some []
  | d :: ds => match pr? d, prs? ds with
    | some p, some ps => some (p :: ps)
    | _, _ => none
theorem pr?_eq {d : D} {p : Int × Int} (h : pr? d = some p) : d = pr p := by
  unfold pr? at h
  split at h
  · cases h; rfl
  · cases h
theorem prs?_eq : ∀ {ds : List D} {ps : List (Int × Int)}, prs? ds = some ps → ds = prs ps
  | [], ps, h => by cases h; rfl
  | d :: ds, ps, h => by
    unfold prs? at h
    split at h
    · rename_i p qs e1 e2
      cases h
      rw [pr?_eq e1, prs?_eq e2]; rfl
    · cases h
theorem minD_pairs (p : Int × Int) : ∀ (ps : List (Int × Int)), ∃ m ∈ p :: ps, PySem.W.minD (pairPy p) (ps.map pairPy) = pairPy m ∧ ∀ q ∈ p :: ps, ¬ plt q m := by
  intro ps
  induction ps generalizing p with
  | nil => exact ⟨p, List.mem_cons_self, rfl, fun q hq => by
      have : q = p := by simpa using hq
      subst this
      unfold plt; omega⟩
  | cons a ps ih =>
    have step : PySem.W.minD (pairPy p) ((a :: ps).map pairPy) = PySem.W.minD (if PySem.W.dataLt (pairPy a) (pairPy p) then pairPy a else pairPy p) (ps.map pairPy) := rfl
    have dl : PySem.W.dataLt (pairPy a) (pairPy p) = decide (a.1 < p.1 ∨ (a.1 = p.1 ∧ a.2 < p.2)) := PySem.W.dataLt_ii _ _ _ _
    by_cases h : a.1 < p.1 ∨ (a.1 = p.1 ∧ a.2 < p.2)
    · rw [dl, decide_eq_true h] at step
      obtain ⟨m, hm, e, k⟩ := ih a
      refine ⟨m, List.mem_cons_of_mem _ hm, step.trans e, fun q hq => ?_⟩
      rcases List.mem_cons.mp hq with rfl | hq
      · intro z
        refine k a List.mem_cons_self ?_
        unfold plt at *
        omega
      · exact k q hq
    · rw [dl, decide_eq_false h] at step
      obtain ⟨m, hm, e, k⟩ := ih p
      refine ⟨m, ?_, step.trans e, fun q hq => ?_⟩
      · rcases List.mem_cons.mp hm with rfl | hm
        · exact List.mem_cons_self
        · exact List.mem_cons_of_mem _ (List.mem_cons_of_mem _ hm)
      · rcases List.mem_cons.mp hq with rfl | hq
        · exact k q List.mem_cons_self
        · rcases List.mem_cons.mp hq with rfl | hq
          · intro z
            refine k p List.mem_cons_self ?_
            unfold plt at *
            omega
          · exact k q (List.mem_cons_of_mem _ hq)
def rMinP (K : PySem.W.Frag) : List V → Hp → VK → Prop := fun xs H Q => ∃ (a : Addr) (us : List V) (p : Int × Int) (ps : List (Int × Int)), xs = [.ref a] ∧ SqL K H a us ∧ DpAll K H us ((p :: ps).map pairPy) ∧
  ∀ (i : Nat) (u : V) (m : Int × Int), us[i]? = some u → (p :: ps)[i]? = some m → (∀ q ∈ p :: ps, ¬ plt q m) → Q u H
theorem cr_minP {X : Cx} (hc : X.calm = true) (hu : X.A.units + 100 < cLine) : CallR X (.builtin "min") (rMinP X.K) := by
  intro pins s σ H xs us' Q I r h
  obtain ⟨a, us, p, ps, rfl, hl, hd, q⟩ := h
  rw [Vals.ref1 r]
  obtain ⟨its, rv, pl, hz⟩ := I.list hl
  obtain ⟨as, rd⟩ := Dp.readsAll I _ us its hd rv
  have alk : PySem.W.AlikeAll (pairPy p :: ps.map pairPy) := ⟨fun x hx y hy => alike_pairs (p :: ps) x hx y hy, fun x hx e => by
    obtain ⟨z, _, e2⟩ := List.mem_map.mp (show x ∈ (p :: ps).map pairPy from hx)
    rw [← e2] at e
    exact nomatch e⟩
  have dep : PyData.depthAll (pairPy p :: ps.map pairPy) ≤ 3 := by
    have : ∀ l : List (Int × Int), PyData.depthAll (l.map pairPy) ≤ 3 := by
      intro l
      induction l with
      | nil => simp [PyData.depthAll]
      | cons x l ih =>
        show PyData.depthAll (pairPy x :: l.map pairPy) ≤ 3
        rw [PyData.depthAll]
        have := depth_pair x
        omega
    exact this (p :: ps)
  refine PySem.W.min_list_data (I.ok.hd hc) pl.isList (show ReadsAll s.heap its.toArray.toList (pairPy p :: ps.map pairPy) as from rd) alk (by omega) ?_
  intro i v h' tk bs hv hr k
  have hv' : its[i]? = some v := by simpa using hv
  have hlen : us.length = (p :: ps).length := by
    have : ∀ (vs : List V) (ds : List PyData), DpAll X.K H vs ds → vs.length = ds.length := by
      intro vs ds h
      induction ds generalizing vs with
      | nil => cases h; rfl
      | cons d ds ih => cases h with | cons _ h2 => rw [List.length_cons, List.length_cons, ih _ h2]
    rw [this _ _ hd, List.length_map]
  have hi : i < us.length := by
    have := (List.getElem?_eq_some_iff.mp hv').1
    rw [← rv.length] at this; exact this
  have hu0 : us[i]? = some us[i] := List.getElem?_eq_getElem hi
  have hm0 : (p :: ps)[i]? = some ((p :: ps)[i]'(by omega)) := List.getElem?_eq_getElem (by omega)
  generalize us[i] = u at hu0
  generalize (p :: ps)[i]'(by omega) = m at hm0
  obtain ⟨v', e1, ru⟩ := rv.get hu0
  rw [hv'] at e1
  cases e1
  have hpi : ∃ as', Reads h' v (pairPy m) as' := by
    have at_ : ∀ (vs : List Value) (ds : List PyData) (as : List Addr) (i : Nat) (v : Value) (d : PyData), ReadsAll s.heap vs ds as → vs[i]? = some v → ds[i]? = some d → ∃ as', Reads s.heap v d as' := by
      intro vs ds
      induction ds generalizing vs with
      | nil => intro as i v d h h1 h2; simp at h2
      | cons d0 ds ih =>
        intro as i v d h h1 h2
        cases h with
        | cons r1 r2 =>
          cases i with
          | zero => simp at h1 h2; subst h1; subst h2; exact ⟨_, r1⟩
          | succ i => exact ih _ _ i v d r2 (by simpa using h1) (by simpa using h2)
    obtain ⟨as', z⟩ := at_ _ _ _ i v (pairPy m) rd hv' (by rw [List.getElem?_map, hm0]; rfl)
    exact ⟨as', PyProof.Rows.Reads.keeps k z⟩
  obtain ⟨as', z⟩ := hpi
  obtain ⟨m', hm', em, km⟩ := minD_pairs p ps
  rw [em] at hr
  have alm : PySem.W.alike (pairPy m') (pairPy m) = true := by simp [pairPy, PySem.W.alike, PySem.W.alikeAll]
  have ee := PySem.W.alike_unique _ _ _ _ _ alm hr z
  have emm : m' = m := by
    simp only [pairPy, PyData.tuple.injEq, List.cons.injEq, PyData.int.injEq] at ee
    exact Prod.ext ee.1 ee.2.1
  exact ⟨u, H, I.kept (t' := tk) k, ru, q i u m hu0 hm0 (by rw [← emm]; exact km)⟩
/-- the least pair -/
def minP (p : Int × Int) : List (Int × Int) → Int × Int
  | [] => p
  | q :: r => minP (if plt q p then q else p) r
theorem minP_spec : ∀ (r : List (Int × Int)) (p : Int × Int), minP p r ∈ p :: r ∧ ∀ q ∈ p :: r, ¬ plt q (minP p r)
  | [], p => ⟨by simp [minP], fun q hq => by
      have : q = p := by simpa using hq
      subst this
      exact plt_irr⟩
  | a :: r, p => by
    obtain ⟨h1, h2⟩ := minP_spec r (if plt a p then a else p)
    unfold minP
    refine ⟨?_, fun q hq => ?_⟩
    · rcases List.mem_cons.mp h1 with e | h
      · rw [e]; split <;> simp
      · exact List.mem_cons_of_mem _ (List.mem_cons_of_mem _ h)
    · have h0 := h2 _ List.mem_cons_self
      generalize minP (if plt a p then a else p) r = m at *
      rcases List.mem_cons.mp hq with e | hq
      · subst e
        split at h0
        · rename_i k
          intro z
          exact h0 (plt_trans k z)
        · exact h0
      · rcases List.mem_cons.mp hq with e | hq
        · subst e
          split at h0
          · exact h0
          · rename_i k
            intro z
            unfold plt at *
            omega
        · exact h2 q (List.mem_cons_of_mem _ hq)
def gMinP : GL := fun ds => match ds with
  | [.lst ds] => match prs? ds with
    | some (p :: ps) => some (pr (minP p ps))
    | _ => none
  | _ => none
theorem rd_minP {K : En} : RdCall K (rMinP K.K) gMinP := fun W O H xs ds z Q _ h hg k => by
  unfold gMinP at hg
  split at hg
  · split at hg
    · rename_i p ps hps
      cases hg
      have e := prs?_eq hps
      subst e
      obtain ⟨v, rfl, hv⟩ := va1 h
      obtain ⟨a, us, rfl, hs, ha⟩ := hv.list
      have hdp : DpAll K.K H us ((p :: ps).map pairPy) := by
        have := DvAll.dp _ _ (prs_plain (p :: ps)) (ha.up msk_le)
        rwa [prs_py] at this
      refine ⟨a, us, p, ps, rfl, hs, hdp, fun i u m hu hm hmin => ?_⟩
      obtain ⟨d, hd, r⟩ := ha.get' hu
      have ed : d = pr m := by
        have : (prs (p :: ps))[i]? = some (pr m) := by unfold prs; rw [List.getElem?_map, hm]; rfl
        rw [hd] at this
        exact Option.some.inj this
      subst ed
      have em : m = minP p ps := by
        obtain ⟨h1, h2⟩ := minP_spec ps p
        exact plt_tri (h2 m (List.mem_of_getElem? hm)) (hmin _ h1)
      subst em
      exact k u H (Le.refl H) r
    · cases hg
  · cases hg
def D.tyn : D → Option String
  | .non => some "NoneType"
  | .bl _ => some "bool"
  | .int _ => some "int"
  | .str _ => some "str"
  | .lst _ => some "list"
  | .tup _ => some "tuple"
  | .emp => some "dict"
  | _ => none
def gIsi : GL := fun ds => match ds with
  | [d, .ty n] => (match d.tyn with
    | some t => (match kitB t n with
      | some b => some (.bl b)
      | none => none)
    | none => none)
  | _ => none
theorem Vw.tyx {K : En} {W : Wd} {O : Addr → Prop} {H : Hp} {v : V} {d : D} {t : String} (h : Vw K W O H v d) (e : d.tyn = some t) : TyX K.K H v (.type t) := by
  have q := h.dv
  cases d with
  | non => cases e; cases q; exact .base .non
  | bl b => cases e; cases q; exact .base (.bl b)
  | int b => cases e; cases q; exact .base (.int b)
  | str b => cases e; cases q; exact .base (.str b)
  | lst ds =>
    cases e
    cases q with
    | lst hs ha =>
      rcases hs with (hs | ⟨o, hs⟩) | ⟨its, n, h1, h2, _⟩
      · exact .base (.lst hs)
      · exact .base (.frz hs)
      · exact .kList h1 rfl
  | tup ds =>
    cases e
    cases q with
    | tup hs ha =>
      rcases hs with (hs | ⟨o, hs⟩) | ⟨o, its, n, h1, h2, _⟩
      · exact .base (.tup hs)
      · exact .fTuple hs
      · exact .kTuple h1 h2
  | emp =>
    cases e
    cases q with
    | emp hs => exact .base (.dK hs)
  | _ => cases e
theorem rd_isi {K : En} : RdCall K (rIsi K.K) gIsi := fun W O H xs ds z Q _ h hg k => by
  unfold gIsi at hg
  split at hg
  · split at hg
    · rename_i t q
      split at hg
      · rename_i b q2
        cases hg
        obtain ⟨v, u, rfl, hv, hu⟩ := va2 h
        rw [hu.ty]
        exact ⟨v, _, _, _, b, rfl, .ty _, hv.tyx q, kit_ty q2, k _ H (Le.refl H) (.bl _)⟩
      · cases hg
    · cases hg
  · cases hg
theorem turn_long {P : Program} {w : World} {K : PySem.W.Frag} {tg : Expr} (it : Addr) (lo : Int) (n : Nat) : Turn P w K tg (Itr lo n) [it] it (fun i h => IsLongIter h it (lo + (i : Nat) * 1) ((n : Int) - (i : Nat)) 1) where
  mem := List.mem_singleton.mpr rfl
  obj := fun _ _ st b m => by
    cases List.mem_singleton.mp m
    exact ⟨_, st, fun _ z => Data.noConfusion (show Data.fields _ = Data.cell _ from z)⟩
  keep := fun _ _ _ st k => k it (List.mem_singleton.mpr rfl) _ st
  item := by
    rintro X rfl rfl rfl calm i pins s σ H E I own st more
    obtain ⟨a0, a1, a2, a3, a4, a5⟩ := own it (List.mem_singleton.mpr rfl)
    apply (Walks.longrange (prog := X.prog) (w := X.w) (I.ok.hd calm) it lo 1 n).item i s _ _ more st
    rintro _ h' tk ⟨t, rfl⟩ st' k
    have J : Inv X pins σ H { s with heap := h', toks := tk } := I.turned (fun b o off e => k b o (fun m => off (List.mem_singleton.mp m)) e) a0 a1 a3 a4 a5
    exact ⟨_, rfl, go_of (s := { s with heap := h', toks := tk }) (n := "longrange_iterator") st' rfl rfl (by decide) ⟨.int (lo + i), H, J, ⟨t, by rw [Int.mul_one]⟩, ⟨rfl, rfl⟩, st', fun b m => (own b m).1⟩⟩
  done := by
    rintro X rfl rfl rfl calm i pins s σ H E I own st (over : n ≤ i)
    obtain ⟨a0, a1, a2, a3, a4, a5⟩ := own it (List.mem_singleton.mpr rfl)
    exact wpAny_pyNext_long_end (I.ok.hd calm) st (by omega) fun h' k => ⟨rfl, I.turned (t' := s.toks) k a0 a1 a3 a4 a5⟩
  self := fun _ _ _ _ _ st h => wpAny_pyIter_longiter st h
/-- a range of step 1, as the machine keeps it -/
abbrev rngO (lo hi : Int) (t u v : Tok) : Obj := { cls := .type "range", data := .fields #[.int lo t, .int hi u, .int 1 v] }
theorem rng_size (lo hi : Int) : Builtin.Range.rangeSize lo hi 1 = (((hi - lo).toNat : Nat) : Int) := by
  rw [rangeSize_one]
  by_cases c : lo < hi <;> simp only [c, if_true, if_false] <;> omega
/-- an iterator that was made just now is walked by its turn -/
theorem it_new {X : Cx} {tg : Expr} {pins : List (Addr × Obj)} {σ : L2.St} {H : Hp} {s : Shared} {R : It → Hp → Prop} {J : It} {st : Nat → Heap → Prop} {o : Obj} (I : Inv X pins σ H s) (T : Turn X.prog X.w X.K tg J [s.heap.objs.size] s.heap.objs.size st)
    (b : st 0 (s.heap.push o)) (q : R J H) : PIE X pins σ tg R (.ref s.heap.objs.size) { s with heap := s.heap.push o } :=
  ⟨_, [s.heap.objs.size], st, J, H, rfl, I.kept (t' := s.toks) fun _ _ e => Heap.get?_push_of_some _ e, T, b, fun c m => by cases List.mem_singleton.mp m; exact I.fpOk (Nat.le_refl _) I.fresh, q⟩
theorem range_itA {X : Cx} {tg : Expr} {pins : List (Addr × Obj)} {σ : L2.St} {H : Hp} {s : Shared} {R : It → Hp → Prop} {E : Value → Shared → Prop} {lo hi : Int} {t u v : Tok} {tk : Nat} (I : Inv X pins σ H s) (q : R (Itr lo (hi - lo).toNat) H) :
    wpAny (model X.prog X.w) X.A (pyIter (.ref s.heap.objs.size)) (PIE X pins σ tg R) E { s with heap := s.heap.push (rngO lo hi t u v), toks := tk } := by
  have J : Inv X pins σ H { s with heap := s.heap.push (rngO lo hi t u v), toks := tk } := I.kept fun _ _ e => Heap.get?_push_of_some _ e
  have first : lo + ((0 : Nat) : Int) * 1 = lo := by omega
  have all : (((hi - lo).toNat : Nat) : Int) - ((0 : Nat) : Int) = Builtin.Range.rangeSize lo hi 1 := by rw [rng_size]; exact Int.sub_zero _
  by_cases sm : Builtin.Range.small lo hi 1 = true
  · apply wpAny_pyIter_range (IsRange.new ..) sm
    refine it_new J (turn_range _ lo (hi - lo).toNat) ?_ q
    change IsRangeIter _ _ (lo + ((0 : Nat) : Int) * 1) ((((hi - lo).toNat : Nat) : Int) - ((0 : Nat) : Int)) 1
    rw [first, all]
    exact Heap.get?_push_size _ rfl
  · apply wpAny_pyIter_longrange (IsRange.new ..) (Bool.eq_false_iff.mpr sm)
    refine it_new J (turn_long _ lo (hi - lo).toNat) ?_ q
    change IsLongIter _ _ (lo + ((0 : Nat) : Int) * 1) ((((hi - lo).toNat : Nat) : Int) - ((0 : Nat) : Int)) 1
    rw [first, all]
    exact Heap.get?_push_size _ rfl
def iRng2A (ta : TA) : TI := fun σ H R => ta σ H fun vs H1 => ∃ i j : Int, vs = [.int i, .int j] ∧ R (Itr i (j - i).toNat) H1
theorem pi_range2A {X : Cx} {tg a b : Expr} {ta : TA} {p pos : Pos} (hg : Gl X "range") (hm : X.mg "range" = none) (ha : PA X [a, b] ta) (hs : starEach [a, b] X.env = [(false, eval a X.env), (false, eval b X.env)] := by rfl) (hs2 : starEach [b] X.env = [(false, eval b X.env)] := by rfl) :
    PI X tg (.Call (.Name "range" p) [a, b] [] pos) (iRng2A ta) := by
  refine ⟨fun pins s σ H R I h => ?_⟩
  refine Call_ (ld_blt I hg hm boot_range (PyProof.Rows.callWith_type1 (thn (ha.run pos pins s σ H _ I h) fun us s1 ⟨vs, H1, I1, r1, q1⟩ => ?_) (by rw [hs, hs2]) (by rw [hs2]; rfl)))
  obtain ⟨i, j, e, q⟩ := q1
  subst e
  cases r1 with
  | cons r rr =>
    cases rr with
    | cons r' rr =>
      cases rr
      obtain ⟨t, rfl⟩ := r
      obtain ⟨t', rfl⟩ := r'
      exact call_range_2 (range_itA I1 q)
def toR2 : List D → Option (List D)
  | [.int i, .int j] => some (rng i (j - i).toNat)
  | _ => none
def iR2A (m : MA) : MI := fun ρ c => (m ρ c).bind fun ds c' => .opt (toR2 ds) c'
theorem i_r2A {X : Cx} {Z : WX} {tg e : Expr} {ma : MA} (h : PI X tg e (iRng2A (rdA X.en Z ma))) : PI X tg e (rdI X.en Z (iR2A ma)) := h.imp fun σ H Q ⟨W, O, ρ, c, P, E, S, hm, k, kx⟩ =>
  ⟨W, O, ρ, c, _, E, S, (Eo.aft_bind ..).mp hm, fun ds c1 vs H1 p l S1 r => by
    obtain ⟨zs, ez, p2⟩ := opt_some p
    unfold toR2 at ez
    split at ez
    · cases ez
      cases r with
      | cons r1 r2 =>
        cases r2 with
        | cons r2 r3 =>
          cases r1; cases r2; cases r3
          exact ⟨_, _, rfl, k _ c1 _ H1 p2 l S1 (yl_rng _ _)⟩
    · (cases ez), kx⟩
end GX
namespace GX
open PySem PySem.Spec PyProof.Rows L2
abbrev MX := Rho → Be → Eo (List Sl)
def SlOk (K : En) (W : Wd) (O O' : Addr → Prop) (H : Hp) (v : V) : Sl → Prop
  | .val d => Dv K (msk (W.N O') H) v d
  | .own ds => ∃ p vs, v = .ref p ∧ O' p ∧ ¬ W.N O p ∧ H p = some (.lst vs) ∧ DvAll K (msk (W.N O') H) vs ds
  | _ => False
def XAll (K : En) (W : Wd) (O O' : Addr → Prop) (H : Hp) : List V → List Sl → Prop
  | [], [] => True
  | v :: vs, s :: ss => SlOk K W O O' H v s ∧ XAll K W O O' H vs ss
  | _, _ => False
/-- own lists among the values stand apart -/
def Apart : List V → List Sl → Prop
  | v :: vs, s :: ss => (∀ ds, s = .own ds → ∀ (i : Nat) es, ss[i]? = some (.own es) → vs[i]? ≠ some v) ∧ Apart vs ss
  | _, _ => True
def rdX (K : En) (Z : WX) (m : MX) : TA := fun σ H Q => ∃ W O ρ c P E, Stt K W O σ H ρ c ∧ (m ρ c).aft P E ∧
  (∀ ss c' vs O' H', P ss c' → LeX W.bs H H' → Stt K W O' σ H' ρ c' → (∀ b, O b → O' b) → (∀ b, O' b → O b ∨ H b = none) → Le (msk (W.N O) H) (msk (W.N O') H') → XAll K W O O' H' vs ss → Apart vs ss → Q vs H') ∧
  (∀ e c' O' cls dx H', E e c' → LeX W.bs H H' → Stt K W O' σ H' ρ c' → Le (msk (W.N O) H) (msk (W.N O') H') → XcIs K (msk (W.N O') H') e cls dx → Z cls dx σ H')
def xNil : MX := fun _ c => .ok [] c
def xE (m : ME) (r : MX) : MX := fun ρ c => (m ρ c).bind fun d c1 => (r ρ c1).bind fun ss c2 => .ok (.val d :: ss) c2
def xF (m : MA) (r : MX) : MX := fun ρ c => (m ρ c).bind fun ds c1 => (r ρ c1).bind fun ss c2 => .ok (.own ds :: ss) c2
section
variable {X : Cx} {Z : WX} {e : Expr} {es : List Expr} {m : ME} {mf : MA} {r : MX} {st : Stmt} {i j l : Nat}
theorem x_nil : PA X [] (rdX X.en Z xNil) := pa_nil.imp fun σ H Q ⟨W, O, ρ, c, P, E, S, hm, k, kx⟩ => k [] c [] O H hm LeX.refl S (fun _ h => h) (fun _ h => .inl h) (Le.refl _) True.intro True.intro
theorem x_e (ha : PE X e (rdE X.en Z m)) (hr : PA X es (rdX X.en Z r)) (hs : starEach (e :: es) X.env = (false, eval e X.env) :: starEach es X.env := by rfl) : PA X (e :: es) (rdX X.en Z (xE m r)) :=
  (pa_cons ha hr hs).imp fun σ H Q ⟨W, O, ρ, c, P, E, S, hm, k, kx⟩ => ⟨W, O, ρ, c, _, E, S, (Eo.aft_bind ..).mp hm, fun d c1 v H1 p1 l1 S1 r1 => ⟨W, O, ρ, c1, _, E, S1, (Eo.aft_bind ..).mp p1, fun ss c2 vs O' H2 p2 l2 S2 sub new le xa ap =>
    k (.val d :: ss) c2 (v :: vs) O' H2 p2 (l1.trans l2) S2 sub (fun b h => (new b h).imp id fun hn => back_none S1 l1 hn) ((lex_msk S l1).trans le) ⟨r1.up le, xa⟩ ⟨fun ds h => (nomatch h), ap⟩, fun e c' O' cls dx H' p l S' le x => kx e c' O' cls dx H' p (l1.trans l) S' ((lex_msk S l1).trans le) x⟩, fun e c' cls dx H' p l S' x => kx e c' O cls dx H' p l S' (lex_msk S l) x⟩
theorem x_f (ha : PE X e (rdF X.en Z mf)) (hr : PA X es (rdX X.en Z r)) (hs : starEach (e :: es) X.env = (false, eval e X.env) :: starEach es X.env := by rfl) : PA X (e :: es) (rdX X.en Z (xF mf r)) :=
  (pa_cons ha hr hs).imp fun σ H Q ⟨W, O, ρ, c, P, E, S, hm, k, kx⟩ => ⟨W, O, ρ, c, _, E, S, (Eo.aft_bind ..).mp hm, fun ds c1 p us H1 p1 l1 hp n1 S1 hus r1 => ⟨W, _, ρ, c1, _, E, S1, (Eo.aft_bind ..).mp p1, fun ss c2 vs O' H2 p2 l2 S2 sub new le xa ap => by
    have np : p ∉ W.bs := S.nb n1
    have lp : Le (msk (W.N O) H) (msk (W.N fun b => O b ∨ b = p) H1) := msk_up (fun b o nb h => l1 b o (S.nb nb) h) fun b o h nb nb' => by
      rcases nb' with h' | h' | h'
      · exact nb (.inl h')
      · exact nb (.inr h')
      · rw [h', hp] at h; cases h
    have xa' : ∀ (vs : List V) (ss : List Sl), XAll X.en W (fun b => O b ∨ b = p) O' H2 vs ss → XAll X.en W O O' H2 vs ss := by
      intro vs
      induction vs with
      | nil => intro ss h; cases ss <;> exact h
      | cons v vs ih =>
        intro ss h
        cases ss with
        | nil => exact h
        | cons s ss =>
          refine ⟨?_, ih ss h.2⟩
          have h1 := h.1
          cases s with
          | own ds =>
            obtain ⟨q, ws, a1, a2, a3, a4⟩ := h1
            exact ⟨q, ws, a1, a2, fun z => a3 (z.elim .inl fun z => .inr (.inl z)), a4⟩
          | val d => exact h1
          | non => exact h1
          | ref _ => exact h1
    refine k (.own ds :: ss) c2 (.ref p :: vs) O' H2 p2 (l1.trans l2) S2 (fun b h => sub b (.inl h)) (fun b h => ?_) (lp.trans le) ⟨⟨p, us, rfl, sub p (.inr rfl), n1, l2 p _ np hus, r1.up le⟩, xa' vs ss xa⟩ ⟨fun ds' _ i es hi hv => ?_, ap⟩
    · rcases new b h with (z | z) | z
      · exact .inl z
      · exact .inr (by rw [z]; exact hp)
      · exact .inr (back_none S1 l1 z)
    · -- a later own list is not p
      have get : ∀ (vs : List V) (ss : List Sl) (i : Nat), XAll X.en W (fun b => O b ∨ b = p) O' H2 vs ss → ss[i]? = some (.own es) → vs[i]? = some (.ref p) → False := by
        intro vs
        induction vs with
        | nil => intro ss i h h1 h2; simp at h2
        | cons v vs ih =>
          intro ss i h h1 h2
          cases ss with
          | nil => exact h.elim
          | cons s ss =>
            cases i with
            | zero =>
              simp at h1 h2
              subst h1; subst h2
              obtain ⟨q, ws, a1, a2, a3, a4⟩ := h.1
              cases a1
              exact a3 (.inr (.inr rfl))
            | succ i => exact ih ss i h.2 (by simpa using h1) (by simpa using h2)
      exact get vs ss i xa hi hv, fun e c' O' cls dx H' p l S' le x => kx e c' O' cls dx H' p (l1.trans l) S' (Le.trans (msk_up (fun b o nb h => l1 b o (S.nb nb) h) fun b o h nb nb' => by
      rcases nb' with h' | h' | h'
      · exact nb (.inl h')
      · exact nb (.inr h')
      · rw [h', hp] at h; cases h) le) x⟩, fun e c' cls dx H' p l S' x => kx e c' O cls dx H' p l S' (lex_msk S l) x⟩
/-- storing one of them -/
theorem Stt.sl {K : En} {W : Wd} {O O' : Addr → Prop} {σ : L2.St} {H : Hp} {ρ : Rho} {c : Be} {v : V} {s : Sl} (S : Stt K W O' σ H ρ c) (h : SlOk K W O O' H v s)
    (hn : ∀ p, v = .ref p → (∃ ds, s = .own ds) → ∀ j es, j ≠ i → ρ[j]? = some (.own es) → σ[j]? ≠ some (some (.ref p))) : Stt K W O' (σ.set i (some v)) H (ρ.set i s) c := by
  cases s with
  | val d => exact S.set i h
  | own ds =>
    obtain ⟨p, vs, rfl, a2, a3, a4, a5⟩ := h
    exact S.slot i _ _ (fun _ z => nomatch z) (fun es z => by cases z; exact ⟨p, vs, rfl, a2, a4, a5, hn p rfl ⟨ds, rfl⟩⟩) (fun _ z => nomatch z)
  | non => exact h.elim
  | ref _ => exact h.elim
end
/-- found += a new list -/
def mExt (i : Nat) (m : MA) : MS := fun ρ c => match ρ[i]? with
  | some (.own ds) => .of (m ρ c) ρ fun es c' => if ds.length + es.length ≤ 16777216 then .nx (ρ.set i (.own (ds ++ es))) c' else .no
  | _ => .no
theorem law_callG {P : Program} {w : World} {K : PySem.W.Frag} {mg mb : Str → Option Value} {k : Nat} {fa a : Addr} {fd : FuncData} {x : Str} {Fp : FP} {s : Shared} {vs : List Value} {ns : List Int}
    (KX : K.In s.heap) (hns : s.heap.Ns mainGlobals mg) (hb : s.heap.Ns builtinsNs mb) (hbb : ∀ x : Str, x ≠ "__name__" → mb x = bootBuiltins x) (hlim : s.heap.NoLimit) (hg : s.gens = #[])
    (ha : s.heap.get? a = some { cls := .type "list", data := .seq vs.toArray }) (hi : IntsAre vs ns) (hl : ns.length ≤ sizeLine) (hr : Room k callerA)
    (F : ∀ base : Heap, K.In base → base.Ns mainGlobals mg → FnG P w K mg base k fa fd [x] (spP ⟨K, mg⟩ Fp)) (hbind : ∀ (s : Shared) (u : Value), BindsTo s fd ⟨[u], []⟩ [(x, u)]) (hp : Fp [.lst (ns.map D.int)] = .ok (.bl true)) :
    codeAny (model P w) callerA (.call (.ref fa) ⟨[.ref a], []⟩) (fun r s' => r = .ok (.ret (.bool true)) ∧ OldK s.heap s'.heap ∧ s'.os = s.os ∧ AllBare s'.gens) s := by
  have rv := vals_ints hi
  have lenV := hi.length
  -- the abstract heap: the script alone, as an object that is known; or nothing
  obtain ⟨H, hO, hS, hok, hA, hK⟩ : ∃ H : Hp, (∀ b, H b = none ∨ ∃ o u, H b = some (.frz o u)) ∧ LsK ⟨K, mg⟩ H a (ns.map V.int) ∧ HOk P w H s.heap ∧ (∀ b, H b ≠ none → b = a) ∧ (H a ≠ none → K.lookup a = none) := by
    cases hk : K.lookup a with
    | some o =>
      have e := KX a o hk
      rw [ha] at e
      cases e
      exact ⟨fun _ => none, fun _ => .inl rfl, .inr ⟨vs.toArray, _, hk, by rw [List.size_toArray, lenV]; exact hl, by simpa using rv⟩, fun b u z => (nomatch (show (none : Option HO) = some u from z)), fun b z => absurd rfl z, fun z => absurd rfl z⟩
    | none =>
      refine ⟨fun b => if b = a then some (.frz { cls := .type "list", data := .seq vs.toArray } (.lst (ns.map V.int))) else none, fun b => ?_, .inl (.inr ⟨_, if_pos rfl⟩), fun b u z => ?_, fun b z => ?_, fun _ => rfl⟩
      · by_cases hb : b = a
        · exact .inr ⟨_, _, if_pos hb⟩
        · exact .inl (if_neg hb)
      · by_cases hb : b = a
        · have z' := (if_pos hb).symm.trans z
          cases z'
          subst hb
          exact ⟨ha, by rw [List.length_map]; exact hl, vs, _, rv, ha⟩
        · have z' := (if_neg hb).symm.trans z
          cases z'
      · by_cases hb : b = a
        · exact hb
        · exact absurd (if_neg hb) z
  have onlyA : ∀ {b : Addr} {o : Obj} {es : Array DictEntry} {ep : Nat}, s.heap.get? b = some o → o.data = .dict es ep → H b = none := fun {b o es ep} e d => by
    cases q : H b with
    | none => rfl
    | some u =>
      have e' : b = a := hA b (by rw [q]; simp)
      subst e'
      rw [ha] at e
      cases e
      exact nomatch (show Data.seq vs.toArray _ = Data.dict es ep from d)
  have nsK : ∀ {b : Addr} {m : Str → Option Value}, s.heap.Ns b m → (hidT s.heap H).Ns b m := fun {b m} z => by
    obtain ⟨o, es, ep, e, d, r⟩ := z
    exact ⟨o, es, ep, hidT_get e (onlyA e d), d, r⟩
  have hKb : K.In (hidT s.heap H) := fun b o e => hidT_get (KX b o e) (by
    cases q : H b with
    | none => rfl
    | some u =>
      have e' : b = a := hA b (by rw [q]; simp)
      subst e'
      rw [hK (by rw [q]; simp)] at e
      cases e)
  have hM : Mod K mg (hidT s.heap H) := by
    obtain ⟨mc, h1, h2⟩ := hlim
    exact ⟨hKb, nsK hns, ⟨mb, nsK hb, hbb⟩, ⟨mc, nsK h1, h2⟩⟩
  have e0 : Env0 P w K mg (hidT s.heap H) callerA [] s H := ⟨rfl, hM, fun b o e => of_hidT e, Nat.le_of_eq (hidT_size _ _), trivial, fun b hb => (nomatch (show b ∈ ([] : List Addr) from hb)), hok, .of_eq hg⟩
  have sp : spP ⟨K, mg⟩ Fp [.ref a] H (fun v _ => v = .bl true) E0 := ⟨fun _ => False, _, fun b h => h.elim, .one (.lst (by rw [msk_none]; exact hS) (.of_ints ns)), Ro.aft_of hp fun v H' _ r => by
    cases r
    rfl⟩
  refine codeAny_mono ((F _ hKb (nsK hns)).run callerA rfl [] s H ⟨[.ref a], []⟩ [.ref a] [.ref a] _ _ hr e0 (hbind s (.ref a)) (.cons rfl .nil) sp) ?_
  intro r s' h
  cases r with
  | error e => obtain ⟨_, _, _, _, _, _, _, _, _, _, _, _, z⟩ := h; exact z.elim
  | ok fl =>
    cases fl with
    | next => exact h.elim
    | brk => exact h.elim
    | cont => exact h.elim
    | ret u =>
      obtain ⟨v, H', os, bare, un, hok', r', q⟩ := h
      cases q
      cases r'
      refine ⟨rfl, OldK.of_keep fun b o e => ?_, os, bare⟩
      cases q : H b with
      | none => exact un.keep b o e q (fun z => nomatch (show b ∈ ([] : List Addr) from z)) (by simp)
      | some u =>
        rcases hO b with z | ⟨ob, xs, z⟩
        · rw [q] at z; cases z
        · have z2 := un.frzs b ob _ z
          obtain ⟨e1, _⟩ := hok b _ z
          obtain ⟨e2, _⟩ := hok' b _ z2
          rw [e] at e1
          cases e1
          exact e2
theorem walk_G {l : PySem.W.OpenLaw} {n k : Nat} {q : Program} {loose : List Str} {XP : (Str → Option Value) → Heap → Prop} {YP : World → Heap → Prop} {d : DefRec} {x : Str}
    (hn : l.most = some n) (hn2 : n ≤ sizeLine) (hdf : d.params.defaults = []) (hr : Room k callerA)
    (F : ∀ (w : World) (mg : Str → Option Value) (fa : Addr) (h : Heap), YP w h → h.Ns mainGlobals mg → mg d.name = some (.ref fa) →
      ∃ (K : PySem.W.Frag) (fd : FuncData) (Fp : FP), K.In h ∧ (∀ (s : Shared) (u : Value), BindsTo s fd ⟨[u], []⟩ [(x, u)]) ∧ (∀ ns : List Int, ns.length ≤ n → Fp [.lst (ns.map D.int)] = .ok (.bl true)) ∧
        ∀ base : Heap, K.In base → base.Ns mainGlobals mg → FnG l.prog w K mg base k fa fd [x] (spP ⟨K, mg⟩ Fp)) :
    PySem.W.WalkO q loose XP YP l.row.toRowW d [] (fun f vs => PySem.call f vs) := by
  refine Att.attach_call hn hdf ?_
  intro w s₀ s₁ mg mb fa o pm cd doc a vs ns G Y ho hd hcd hmg hobj hints hlen hg
  obtain ⟨K, fd, Fp, KX, hb, hp, hF⟩ := F w mg fa _ Y G.T.g hmg
  exact law_callG KX G.T.g G.T.b G.T.builtins G.T.nolimit hg hobj hints (Nat.le_trans hlen hn2) hr hF hb (hp ns hlen)
end GX
namespace GX
open PySem PySem.Spec PyProof.Rows L2
def rOr (r r' : R2) : R2 := fun x y H Q => r x y H Q ∨ r' x y H Q
def gOr (g g' : G2) : G2 := fun d e => match g d e with
  | some z => some z
  | none => g' d e
theorem op_or {X : Cx} {f : Value → Value → Sem Value} {r r' : R2} (h : OpR X f r) (h' : OpR X f r') : OpR X f (rOr r r') := fun pins s σ H x y v u Q I rx ry q => q.elim (h pins s σ H x y v u Q I rx ry) (h' pins s σ H x y v u Q I rx ry)
theorem rd_or {K : En} {r r' : R2} {g g' : G2} (h : RdOp K r g) (h' : RdOp K r' g') : RdOp K (rOr r r') (gOr g g') := fun W O H x y d e z Q al hx hy hg k => by
  unfold gOr at hg
  split at hg
  · rename_i w q
    cases hg
    exact .inl (h W O H x y d e z Q al hx hy q k)
  · exact .inr (h' W O H x y d e z Q al hx hy hg k)
def cOr (r r' : List V → Hp → VK → Prop) : List V → Hp → VK → Prop := fun xs H Q => r xs H Q ∨ r' xs H Q
def gOrL (g g' : GL) : GL := fun ds => match g ds with
  | some z => some z
  | none => g' ds
theorem cr_or {X : Cx} {f : Value} {r r' : List V → Hp → VK → Prop} (h : CallR X f r) (h' : CallR X f r') : CallR X f (cOr r r') := fun pins s σ H xs us Q I rv q => q.elim (h pins s σ H xs us Q I rv) (h' pins s σ H xs us Q I rv)
theorem rdc_or {K : En} {r r' : List V → Hp → VK → Prop} {g g' : GL} (h : RdCall K r g) (h' : RdCall K r' g') : RdCall K (cOr r r') (gOrL g g') := fun W O H xs ds z Q al hv hg k => by
  unfold gOrL at hg
  split at hg
  · rename_i w q
    cases hg
    exact .inl (h W O H xs ds z Q al hv q k)
  · exact .inr (h' W O H xs ds z Q al hv hg k)
/-- tuples of ints: <, <= -/
def gLtA : G2 := gOr gLt gLtT
def gMinA : GL := gOrL gMin gMinP
/-- what is walked is a list or a tuple -/
def toS : D → Option (List D)
  | .lst ds => some ds
  | .tup ds => some ds
  | _ => none
def iSeq (m : ME) : MI := fun ρ c => (m ρ c).bind fun d c' => .opt (toS d) c'
theorem i_seq {X : Cx} {Z : WX} {tg e : Expr} {me : ME} (h : PI X tg e (iList X.K (rdE X.en Z me))) (h' : PI X tg e (iTup X.K (rdE X.en Z me))) : PI X tg e (rdI X.en Z (iSeq me)) :=
  ⟨fun pins s σ H Q I q => by
    obtain ⟨W, O, ρ, c, P, E, S, hm, k, kx⟩ := q
    have hm' := (Eo.aft_bind ..).mp hm
    cases q : me ρ c with
    | ok d c1 =>
      cases d with
      | lst ds => exact h.run pins s σ H Q I (il_imp σ H Q ⟨W, O, ρ, c, P, E, S, (by unfold iLst; rw [q]; rw [q] at hm'; exact hm'), k, kx⟩)
      | tup ds => exact h'.run pins s σ H Q I (it_imp σ H Q ⟨W, O, ρ, c, P, E, S, (by unfold iTpl; rw [q]; rw [q] at hm'; exact hm'), k, kx⟩)
      | _ => rw [q] at hm'; exact hm'.elim
    | ex e c1 => exact h.run pins s σ H Q I (il_imp σ H Q ⟨W, O, ρ, c, P, E, S, (by unfold iLst; rw [q]; rw [q] at hm'; exact hm'), k, kx⟩)
    | no => rw [q] at hm'; exact hm'.elim⟩
structure ClsK (K : En) (C : Str) (as : List Str) : Prop where
  ex : ∃ Ca, K.mg C = some (.ref Ca) ∧ Cls K.K Ca ∧ ∀ f ∈ as, NoAttr K.K Ca f
section
variable {X : Cx} {Z : WX} {e : Expr} {m : ME} {f : Str} {cs as : List Str} {pos : Pos} {i : Nat}
end
section
variable {K : En} {M : Addr → Prop} {a : Addr} {H : Hp}
end
section
variable {X : Cx} {Z : WX} {k j : Nat} {ps cs : List Str} {m : Str} {p pos apos : Pos} {o e : Expr} {es : List Expr} {mo : ME} {ma : MA} {F : FP} {sp : Sp} {ta : TE} {t : TA} {i : Nat}
end
section
variable {X : Cx} {Z : WX} {k j : Nat} {ps : List Str} {C : Str} {p pos : Pos} {e : Expr} {es : List Expr} {ma : MA} {F : FN} {sp : Sp} {t : TA}
end
end GX
namespace GX
open PySem PySem.Spec PyProof.Rows L2
section
variable {K : En}
/-- <= of tuples of ints -/
def lexLe (ns ms : List Int) : Bool := Ob.lexAt (fun j => decide (ns.getD j 0 = ms.getD j 0)) (fun j => decide (ns.getD j 0 ≤ ms.getD j 0)) (decide (ns.length ≤ ms.length)) 0 (min ns.length ms.length)
def gLeT : G2 := fun d e => match d, e with
  | .tup ds, .tup es => (match ints? ds, ints? es with
    | some ns, some ms => some (.bl (lexLe ns ms))
    | _, _ => none)
  | _, _ => none
theorem rd_leT : RdOp K (rLeT K.K) gLeT := fun W O H x y d e z Q _ hx hy hg k => by
  unfold gLeT at hg
  split at hg
  · split at hg
    · rename_i q1 q2
      cases hg
      have e1 := ints?_eq q1
      have e2 := ints?_eq q2
      subst e1; subst e2
      obtain ⟨a, vs, ea, ha, hv⟩ := hx.tup
      obtain ⟨b, us, eb, hb, hu⟩ := hy.tup
      rw [hv.ints] at ha
      rw [hu.ints] at hb
      exact ⟨a, b, _, _, ea, eb, ha, hb, k _ H (Le.refl H) (.bl _)⟩
    · cases hg
  · cases hg
def gLeA : G2 := gOr gLe gLeT
theorem rd_ltA : RdOp K (rOr (rI0 fun i j => .bl (decide (i < j))) (rLtT K.K)) gLtA := rd_or rd_lt rd_ltT
theorem rd_leA : RdOp K (rOr (rI0 fun i j => .bl (decide (i ≤ j))) (rLeT K.K)) gLeA := rd_or rd_le rd_leT
theorem rd_minA : RdCall K (cOr (rMin K.K) (rMinP K.K)) gMinA := rdc_or rd_min rd_minP
/-- x in xs, xs a list -/
def inD (d : D) (es : List D) : Bool := (D.pys es).any fun z => PyData.eqv z d.py
def gIn : G2 := fun d e => match e with
  | .lst es => if d.okEq && (D.lst es).okEq then some (.bl (inD d es)) else none
  | _ => none
def gNotIn : G2 := fun d e => match e with
  | .lst es => if d.okEq && (D.lst es).okEq then some (.bl (!inD d es)) else none
  | _ => none
theorem rd_in : RdOp K (rInD K.K) gIn := fun W O H x y d e z Q _ hx hy hg k => by
  unfold gIn at hg
  split at hg
  · split at hg
    · rename_i es hh
      cases hg
      obtain ⟨⟨h1, h2⟩, h3, h4⟩ := okEq2 hh
      have h := Dv.dp _ y h3 hy.dv
      rw [D.py] at h h4
      exact ⟨d.py, D.pys es, Dv.dp d x h1 hx.dv, h, h2, h4, k _ H (Le.refl H) (.bl _)⟩
    · cases hg
  · cases hg
theorem rd_notIn : RdOp K (rNotInD K.K) gNotIn := fun W O H x y d e z Q _ hx hy hg k => by
  unfold gNotIn at hg
  split at hg
  · split at hg
    · rename_i es hh
      cases hg
      obtain ⟨⟨h1, h2⟩, h3, h4⟩ := okEq2 hh
      have h := Dv.dp _ y h3 hy.dv
      rw [D.py] at h h4
      exact ⟨d.py, D.pys es, Dv.dp d x h1 hx.dv, h, h2, h4, k _ H (Le.refl H) (.bl _)⟩
    · cases hg
  · cases hg
/-- i in (..), of ints -/
def gInT (neg : Bool) : G2 := fun d e => match d, e with
  | .int i, .tup es => (match ints? es with
    | some ns => some (.bl (if neg then !ns.contains i else ns.contains i))
    | none => none)
  | .str i, .tup es => (match strs? es with
    | some ns => some (.bl (if neg then !ns.contains i else ns.contains i))
    | none => none)
  | _, _ => none
where strs? : List D → Option (List Str)
  | [] => some []
  | .str i :: r => (strs? r).map (i :: ·)
  | _ :: _ => none
theorem strs?_eq : ∀ {ds : List D} {ns : List Str}, gInT.strs? ds = some ns → ds = ns.map D.str
  | [], ns, h => by cases h; rfl
  | d :: r, ns, h => by
    cases d with
    | str i =>
      unfold gInT.strs? at h
      cases q : gInT.strs? r with
      | none => rw [q] at h; cases h
      | some ms =>
        rw [q] at h
        cases h
        rw [strs?_eq q]; rfl
    | _ => cases h
theorem inV_ints (i : Int) : ∀ ns : List Int, inV (.int i) (ns.map V.int) = ns.contains i
  | [] => rfl
  | n :: ns => by
    have := inV_ints i ns
    unfold inV at this ⊢
    rw [List.map_cons, List.any_cons, this, List.contains_cons]
    show ((n == i) || _) = _
    rw [show (n == i) = (i == n) from BEq.comm]
theorem inV_strs (i : Str) : ∀ ns : List Str, inV (.str i) (ns.map V.str) = ns.contains i
  | [] => rfl
  | n :: ns => by
    have := inV_strs i ns
    unfold inV at this ⊢
    rw [List.map_cons, List.any_cons, this, List.contains_cons]
    show ((n == i) || _) = _
    rw [show (n == i) = (i == n) from BEq.comm]
theorem flat_ints (ns : List Int) : (ns.map V.int).all flatV = true := by
  rw [List.all_eq_true]
  intro x hx
  obtain ⟨n, _, rfl⟩ := List.mem_map.mp hx
  rfl
theorem flat_strs (ns : List Str) : (ns.map V.str).all flatV = true := by
  rw [List.all_eq_true]
  intro x hx
  obtain ⟨n, _, rfl⟩ := List.mem_map.mp hx
  rfl
theorem rd_inT {neg : Bool} : RdOp K (rIn K.K neg) (gInT neg) := fun W O H x y d e z Q _ hx hy hg k => by
  unfold gInT at hg
  split at hg
  · split at hg
    · rename_i q
      have e1 := ints?_eq q
      subst e1
      cases hg
      obtain ⟨b, us, eb, hb, hu⟩ := hy.tup
      rw [hu.ints] at hb
      refine ⟨b, _, eb, .inr hb, by rw [hx.int]; rfl, flat_ints _, k _ H (Le.refl H) ?_⟩
      rw [hx.int, inV_ints]
      exact .bl _
    · cases hg
  · split at hg
    · rename_i q
      have e1 := strs?_eq q
      subst e1
      cases hg
      obtain ⟨b, us, eb, hb, hu⟩ := hy.tup
      rw [hu.strs] at hb
      refine ⟨b, _, eb, .inr hb, by rw [hx.str]; rfl, flat_strs _, k _ H (Le.refl H) ?_⟩
      rw [hx.str, inV_strs]
      exact .bl _
    · cases hg
  · cases hg
end
section
variable {X : Cx} {Z : WX} {e : Expr} {m : ME}
theorem Vw.seq {K : En} {W : Wd} {O : Addr → Prop} {H : Hp} {v : V} {d : D} {ds : List D} (h : Vw K W O H v d) (e : toS d = some ds) : ∃ p vs, v = .ref p ∧ (SqL K.K H p vs ∨ SqT K.K H p vs) ∧ DvAll K (msk (W.N O) H) vs ds := by
  cases d with
  | lst es => cases e; obtain ⟨p, vs, h1, h2, h3⟩ := h.list; exact ⟨p, vs, h1, .inl h2, h3⟩
  | tup es => cases e; obtain ⟨p, vs, h1, h2, h3⟩ := h.tup; exact ⟨p, vs, h1, .inr h2, h3⟩
  | _ => cases e
end
end GX
namespace GX
open PySem PySem.Spec PyProof.Rows L2
/-- what stands in h stands in h', but at ns -/
def Stay (ns : List Addr) (h h' : Heap) : Prop := ∀ b o, b ∉ ns → h.get? b = some o → h'.get? b = some o
section
variable {ns ms : List Addr} {h h1 h2 : Heap}
theorem Stay.then (a : Stay ns h h1) (b : Stay ms h1 h2) (sub : ∀ x ∈ ms, x ∈ ns) : Stay ns h h2 := fun c o n e => b c o (fun m => n (sub c m)) (a c o n e)
theorem Stay.self : Stay ns h h := fun _ _ _ e => e
end
/-- the tuples that a zip of xs and ys has made so far, one behind the other above lo -/
structure ZlG (xs ys : Array Value) (lo : Addr) (h : Heap) (as : List Addr) : Prop where
  asc : as.Pairwise (· < ·)
  hi : ∀ a ∈ as, lo < a
  is : ∀ (j : Nat) (a : Addr), as[j]? = some a → ∃ x y, xs[j]? = some x ∧ ys[j]? = some y ∧ h.get? a = some { cls := .type "tuple", data := .seq #[x, y] }
section
variable {xs ys : Array Value} {lo : Addr} {h h' : Heap} {as : List Addr}
theorem ZlG.none : ZlG xs ys lo h [] := ⟨.nil, fun _ m => absurd m List.not_mem_nil, fun _ _ e => by rw [List.getElem?_nil] at e; cases e⟩
theorem ZlG.at_ (g : ZlG xs ys lo h as) {a : Addr} (m : a ∈ as) : ∃ o, h.get? a = some o := by
  obtain ⟨j, e⟩ := List.getElem?_of_mem m
  obtain ⟨x, y, _, _, q⟩ := g.is j a e
  exact ⟨_, q⟩
/-- one more tuple, at t -/
theorem ZlG.more {t : Addr} {x y : Value} (g : ZlG xs ys lo h as) (ex : xs[as.length]? = some x) (ey : ys[as.length]? = some y)
    (new : h.get? t = some { cls := .type "tuple", data := .seq #[x, y] }) (tl : lo < t) (last : ∀ a ∈ as, a < t) : ZlG xs ys lo h (as ++ [t]) where
  asc := List.pairwise_append.mpr ⟨g.asc, .cons (fun _ m => absurd m List.not_mem_nil) .nil, fun a m b n => by cases List.mem_singleton.mp n; exact last a m⟩
  hi a m := by
    cases List.mem_append.mp m with
    | inl m => exact g.hi a m
    | inr m => cases List.mem_singleton.mp m; exact tl
  is j a e := by
    by_cases c : j < as.length
    · exact g.is j a (by rw [← e, List.getElem?_append_left c])
    · rw [List.getElem?_append_right (Nat.le_of_not_lt c)] at e
      cases q : j - as.length with
      | zero =>
        have ej : j = as.length := by omega
        rw [q] at e
        cases e
        subst ej
        exact ⟨x, y, ex, ey, new⟩
      | succ n => rw [q] at e; cases e
end
/-- a zip that has given out i tuples -/
structure ZlSt (h : Heap) (z TI TO i1 i2 l1 l2 S : Addr) (xs ys : Array Value) (i : Nat) : Prop where
  ti : IsPair h TI (.ref i1) (.ref i2)
  it1 : h.IsListIter i1 l1 i
  it2 : h.IsListIter i2 l2 i
  ls1 : h.IsList l1 xs
  ls2 : h.IsList l2 ys
  zp : (IsZip h z TI TO .none ∧ ∃ a b, IsPair h TO a b) ∨ ∃ T f oT, IsZipHeld h z TI TO T f ∧ h.get? T = some oT ∧ T ≠ z ∧ T ≠ i1 ∧ T ≠ i2 ∧ T ≠ S
section
variable {z TI TO i1 i2 l1 l2 S : Addr} {xs ys : Array Value} {h h' : Heap} {i : Nat}
theorem ZlSt.keep (st : ZlSt h z TI TO i1 i2 l1 l2 S xs ys i) (off : S ∉ [z, TI, TO, i1, i2, l1, l2]) (k : Stay [S] h h') : ZlSt h' z TI TO i1 i2 l1 l2 S xs ys i := by
  have to : ∀ {b o}, b ∈ [z, TI, TO, i1, i2, l1, l2] → h.get? b = some o → h'.get? b = some o := fun {b o} m e => k b o (fun q => off (List.mem_singleton.mp q ▸ m)) e
  refine { ti := to (by simp) st.ti, it1 := st.it1.at fun _ e => to (by simp) e, it2 := st.it2.at fun _ e => to (by simp) e, ls1 := st.ls1.at fun _ e => to (by simp) e, ls2 := st.ls2.at fun _ e => to (by simp) e, zp := ?_ }
  cases st.zp with
  | inl q =>
    obtain ⟨hz, a, b, p⟩ := q
    exact .inl ⟨to (by simp) hz, a, b, to (by simp) p⟩
  | inr q =>
    obtain ⟨T, f, oT, hz, hT, n1, n2, n3, n4⟩ := q
    exact .inr ⟨T, f, oT, to (by simp) hz, k T oT (fun m => n4 (List.mem_singleton.mp m)) hT, n1, n2, n3, n4⟩
end
section
variable {prog : Program} {w : World} {A : Around} {E : Value → Shared → Prop} {s : Shared} {z TI TO i1 i2 l1 l2 S : Addr} {xs ys : Array Value} {i : Nat}
end
section
variable {X : Cx} {Z : WX} {e : Expr} {ma : MA}
end
end GX
namespace GX
open PySem PySem.Spec PyProof.Rows L2
theorem hu65 {k : Nat} {A : Around} (hr : Room k A) : A.units + 65 < cLine := by have := hu100 hr; omega
def Fr (ρ : Rho) (σ : L2.St) (p : Addr) : Prop := ∀ (j : Nat) (es : List D), ρ[j]? = some (Sl.own es) → σ[j]? ≠ some (some (V.ref p))
theorem Fr.set {ρ : Rho} {σ : L2.St} {p : Addr} {i : Nat} {v : V} {s : Sl} (F : Fr ρ σ p) (hl : σ.length = ρ.length) (h : ∀ es, s = .own es → v ≠ .ref p) : Fr (ρ.set i s) (σ.set i (some v)) p := fun j es hj e => by
  by_cases q : i = j
  · subst q
    have l := set_lt hj
    rw [List.getElem?_set_self (by rw [hl]; exact l)] at e
    exact h es (set_val hj).symm (Option.some.inj (Option.some.inj e))
  · rw [List.getElem?_set_ne q] at hj e
    exact F j es hj e
theorem SlOk.fr {K : En} {W : Wd} {O O2 : Addr → Prop} {σ : L2.St} {H H2 : Hp} {ρ : Rho} {c : Be} {v : V} {s : Sl} (S : Stt K W O σ H ρ c) (h : SlOk K W O O2 H2 v s) : ∀ ds, s = .own ds → ∀ p, v = .ref p → Fr ρ σ p := fun ds e p ev => by
  subst e
  obtain ⟨q, _, a1, _, a3, _⟩ := h
  rw [ev] at a1
  cases a1
  intro j es hj e
  obtain ⟨p', _, e', ho, _⟩ := S.own j es hj
  rw [e'] at e
  cases e
  exact a3 (.inr ho)
def mParX3 (i j l : Nat) (m : MX) : MS := fun ρ c => .of (m ρ c) ρ fun ss c' => match ss with
  | [s, t, u] => .nx (((ρ.set i s).set j t).set l u) c'
  | _ => .no
section
variable {X : Cx} {Z : WX} {e : Expr} {st : Stmt} {i j l : Nat} {r : MX} {m : ME} {mA : MA}
theorem s_parX3 (h : PS X st (tPar3 i j l (rdX X.en Z r))) : PS X st (rdS X.en Z (mParX3 i j l r)) := h.imp fun D σ H ⟨W, O, ρ, c, C, S, hm, R⟩ =>
  ⟨W, O, ρ, c, _, _, S, (So.aft_of ..).mp hm, fun ss c1 vs O' H1 p l' S1 sub new le xa ap => by
    match ss, p with
    | [s, t, u], p =>
      match vs, xa with
      | [v, w, x], xa =>
        obtain ⟨x1, x2, x3, _⟩ := xa
        have f1 : ∀ ds, s = .own ds → ∀ p, v = .ref p → Fr ρ σ p := SlOk.fr S x1
        have f2 : ∀ ds, t = .own ds → ∀ p, w = .ref p → Fr ρ σ p := SlOk.fr S x2
        have f3 : ∀ ds, u = .own ds → ∀ p, x = .ref p → Fr ρ σ p := SlOk.fr S x3
        have a12 : ∀ es, s = .own es → ∀ ds, t = .own ds → v ≠ w := fun es h ds h2 q => ap.1 es h 0 ds (by rw [h2]; rfl) (by rw [q]; rfl)
        have a13 : ∀ es, s = .own es → ∀ ds, u = .own ds → v ≠ x := fun es h ds h2 q => ap.1 es h 1 ds (by rw [h2]; rfl) (by rw [q]; rfl)
        have a23 : ∀ es, t = .own es → ∀ ds, u = .own ds → w ≠ x := fun es h ds h2 q => ap.2.1 es h 0 ds (by rw [h2]; rfl) (by rw [q]; rfl)
        have S2 := S1.sl (i := i) x1 fun q eq ⟨ds, ho⟩ k es _ => f1 ds ho q eq k es
        have S3 := S2.sl (i := j) x2 fun q eq ⟨ds, ho⟩ k es _ => (f2 ds ho q eq).set S.len (fun es h z => a12 es h ds ho (z.trans eq.symm)) k es
        have S4 := S3.sl (i := l) x3 fun q eq ⟨ds, ho⟩ k es _ => ((f3 ds ho q eq).set S.len (fun es h z => a13 es h ds ho (z.trans eq.symm))).set S2.len (fun es h z => a23 es h ds ho (z.trans eq.symm)) k es
        exact ⟨v, w, x, rfl, R.nx O' _ c1 _ H1 p le S4⟩, fun e c' O' cls dx H' p l S' le x => R.ex e O' ρ c' σ H' cls dx p le S' x⟩
theorem lkI_list_iadd : typeLookup (.type "list") (dunderI "add") = pure (some (.builtin "list.__iadd__")) := F.slot_list_iadd.lookup
theorem isSeq_iadd : isSeqSlot (some (.builtin "list.__iadd__")) = true := by decide +kernel
theorem iadd_no_fill : fillsInplaceSlot (.type "list") "add" (Operator.Add == .Add) = pure false := by
  unfold fillsInplaceSlot
  change bind (typeLookup (.type "list") (dunderI "add")) _ = _
  rw [lkI_list_iadd, pure_bind, isSeq_iadd]
  rfl
theorem iadd_slot : seqSlot? (.type "list") (dunderI "add") = pure (some (.builtin "list.__iadd__")) := by
  unfold seqSlot?
  rw [lkI_list_iadd, pure_bind, isSeq_iadd]
  rfl
theorem inplaceOp_iconcat {M : Model} {A : Around} {E : Value → Shared → Prop} {s : Shared} {a b : Value} {Q : Value → Shared → Prop} (ha : s.TypeIs a "list") (hb : s.TypeIs b "list")
    (hc : wpAny M A (call (.builtin "list.__iadd__") [a, b]) Q E s) : wpAny M A (inplaceOp .Add a b) Q E s := by
  unfold inplaceOp
  apply wpAny_holding
  apply wpAny_bind
  apply wpAny_typeOf ha
  apply wpAny_bind
  apply wpAny_of_eq iadd_no_fill
  rw [if_neg Bool.false_ne_true]
  apply wpAny_bind
  apply PyProof.Rows.binaryOp1_none (nm := "add") ha hb noFill_list_add
  apply wpAny_bind
  apply wpAny_of_eq iadd_slot
  apply wpAny_bind
  exact wpAny_rule hc
def ipExt : TIp := fun x y H Q => ∃ l b xs zs, x = .ref l ∧ y = .ref b ∧ H l = some (.lst xs) ∧ H b = some (.lst zs) ∧ xs.length + zs.length ≤ sizeLine ∧ Q (.ref l) (upd H l (.lst (xs ++ zs)))
theorem ip_ext : PIp X .Add ipExt := by
  intro pins s σ H x y v u Q I r1 r2 h
  obtain ⟨l, b, xs, zs, rfl, rfl, h1, h2, few, q⟩ := h
  cases r1
  cases r2
  obtain ⟨z, us, n, r, lu, e⟩ := I.lstM h1
  obtain ⟨z2, us2, n2, r2, lu2, e2⟩ := I.lstM h2
  have room : us.toArray.size + us2.toArray.size ≤ sizeLine := by simp only [List.size_toArray]; omega
  have short : ¬ (!us.toArray.isEmpty && Builtin.List.listTooLong (us.toArray.size + us2.toArray.size)) = true := fun c => by
    rw [notLongL room, Bool.and_false] at c
    cases c
  have isl : s.TypeIs (.ref l) "list" := ⟨_, e, rfl⟩
  apply inplaceOp_iconcat isl (show s.TypeIs (.ref b) "list" from ⟨_, e2, rfl⟩)
  apply call_meets F.slot_list_iadd isl F.entry_list_iadd (F.args_list_iadd_2 _ _)
  · exact AutoSeq1.list___iadd___list_list_0 l us.toArray n b us2.toArray n2 short (by simp only [List.size_toArray]; omega) (by omega)
  · exact ⟨e, e2, .ref l, _, I.lset (its' := us ++ us2) h1 e (by simp) (r.append r2) (List.length_append ▸ few), rfl, q⟩
theorem s_ext (h : PS X st (tAug i (rdF X.en Z mA) ipExt)) : PS X st (rdS X.en Z (mExt i mA)) := h.imp fun D σ H ⟨W, O, ρ, c, C, S, hm, R⟩ => by
  unfold mExt at hm
  split at hm
  · rename_i ds hi
    obtain ⟨p, vs, hσ, ho, hp, r⟩ := S.own i ds hi
    refine ⟨.ref p, hσ, W, O, ρ, c, _, _, S, (So.aft_of ..).mp hm, fun es c1 q us H1 p1 l1 hq nq S1 hus rus => ?_, R.xe S⟩
    split at p1
    · rename_i hl
      have S1' := S.let_ l1 S1 nq
      obtain ⟨p', vs1, hσ1, ho1, hp1, r1⟩ := S1'.own i ds hi
      rw [hσ] at hσ1; cases hσ1
      have rus' : DvAll X.en (msk (W.N O) H1) us es := rus.up (msk_up (fun b o _ h => h) fun b o h nb nb' => nb (nb'.elim .inl fun z => .inr (.inl z)))
      obtain ⟨S2, le⟩ := own_write (vs' := vs1 ++ us) (ds' := ds ++ es) S1' hi hσ ho hp1 (r1.append rus')
      refine ⟨p, q, vs1, us, rfl, rfl, hp1, hus, by rw [line_eq, r1.length, rus'.length]; exact hl, ?_⟩
      have e : σ.set i (some (.ref p)) = σ := by
        apply List.ext_getElem?
        intro k
        by_cases q : i = k
        · subst q
          rw [List.getElem?_set_self (List.getElem?_eq_some_iff.mp hσ).1, hσ]
        · rw [List.getElem?_set_ne q]
      show D.nx (σ.set i (some (.ref p))) _
      rw [e]
      exact R.nx O _ c1 _ _ p1 ((lex_msk S l1).trans le) S2
    · exact p1.elim
  · exact hm.elim
def mTuple (m : ME) : ME := fun ρ c => (m ρ c).bind fun d c' => .opt ((toS d).map .tup) c'
theorem e_tuple (h : PE X e (tCB (fun xs H Q => ∃ p ys, xs = [.ref p] ∧ ((SqL X.K H p ys ∧ ∀ l, H l = none → Q (.ref l) (upd H l (.tup ys))) ∨ (SqT X.K H p ys ∧ Q (.ref p) H))) (tCons (rdV X.en Z m) tNil))) : PE X e (rdE X.en Z (mTuple m)) := h.imp fun σ H Q ⟨W, O, ρ, c, P, E, S, hm, k, kx⟩ =>
  ⟨W, O, ρ, c, _, E, S, (Eo.aft_bind ..).mp hm, fun d c1 v H1 p1 l1 S1 r1 => by
    obtain ⟨z, ez, p2⟩ := opt_some p1
    cases d with
    | lst ds =>
      cases ez
      obtain ⟨p, vs, rfl, hs, hv⟩ := r1.list
      refine ⟨p, vs, rfl, .inl ⟨hs, fun q hq => ?_⟩⟩
      have n := (S1.n0 hq).1
      have lm := lex_msk S1 ((upd_le (o := .tup vs) hq).x (bs := W.bs))
      have S2 : Stt X.en W O σ (upd H1 q (.tup vs)) ρ c1 := S1.move (upd_le hq).x (fun _ h => h) (fun b h => ⟨(S1.oo b h).1, let ⟨o, z⟩ := (S1.oo b h).2; ⟨o, upd_le hq b o z⟩⟩) lm (S1.be.up lm fun a _ o z => upd_le hq a o z)
      exact k _ c1 _ _ p2 (l1.trans (upd_le hq).x) S2 (.tup (.inl (.inl (by rw [msk_of n]; exact upd_same))) (hv.up lm))
    | tup ds =>
      cases ez
      rcases r1 with r1 | ⟨_, _, _, z, _⟩
      · cases r1 with
        | tup hs hv => exact ⟨_, _, rfl, .inr ⟨sqt_mono msk_le hs, k _ c1 _ _ p2 l1 S1 (.tup hs hv)⟩⟩
      · cases z
    | _ => (cases ez), kx⟩
end
section
variable {X : Cx} {Z : WX} {k j : Nat} {ps cs : List Str} {m : Str} {p pos apos : Pos} {o e : Expr} {es : List Expr} {mo : ME} {ma : MA} {F : FP} {i : Nat}
end
/-- == and != of texts, of data -/
def gEqA : G2 := gOr gEqS gEqD
def gNeA : G2 := gOr gNeS gNeD
theorem rd_eqA {K : En} : RdOp K (rOr rEq (rEqD K.K)) gEqA := rd_or rd_eqS rd_eqD
theorem rd_neA {K : En} : RdOp K (rOr rNe (rNeD K.K)) gNeA := rd_or rd_neS rd_neD
end GX
namespace GX
open PySem PySem.Spec PyProof.Rows L2
/-- what holds behind a result; never unfolded -/
@[irreducible] def Eo.af {α : Type} (r : Eo α) (f : α → Be → Prop) (g : D → Be → Prop) : Prop := r.aft f g
@[irreducible] def Ro.af {α : Type} (r : Ro α) (f : α → Prop) (g : D → Prop) : Prop := r.aft f g
@[irreducible] def So.af (s : So) (C : Co) : Prop := s.aft C
theorem Eo.af_eq {α : Type} (r : Eo α) (f : α → Be → Prop) (g : D → Be → Prop) : r.af f g = r.aft f g := by unfold Eo.af; rfl
theorem Ro.af_eq {α : Type} (r : Ro α) (f : α → Prop) (g : D → Prop) : r.af f g = r.aft f g := by unfold Ro.af; rfl
theorem So.af_eq (s : So) (C : Co) : s.af C = s.aft C := by unfold So.af; rfl
theorem ixN_nat {n i : Nat} (h : i < n) : ixN n (i : Int) = some i := by
  unfold ixN
  rw [if_pos (by omega), if_pos (by omega), Int.toNat_natCast]
theorem atI_nat {ds : List D} {i : Nat} (h : i < ds.length) : L2.atI ds (i : Int) = ds[i]? := by
  unfold L2.atI
  rw [ixN_nat h]
  rfl
theorem atq (ds : List D) (i : Nat) (d : D) (h : ds[i]? = some d) : L2.atI ds (i : Int) = some d := by
  have hl := (List.getElem?_eq_some_iff.mp h).1
  rw [atI_nat hl, h]
theorem q_ic (K : Int → Int → Prop) [∀ i j, Decidable (K i j)] (f : Int → Int → D) (i j : Int) (c : Be) (P : D → Be → Prop) (E : D → Be → Prop) : ((Eo.opt (gIC K f (.int i) (.int j)) c).aft P E) = (K i j ∧ P (f i j) c) := by
  simp only [gIC]
  split <;> rename_i h <;> simp [h, Eo.opt, Eo.aft]
theorem q_eqi (i j : Int) (c : Be) (P : D → Be → Prop) (E : D → Be → Prop) : ((Eo.opt (gEqD (.int i) (.int j)) c).aft P E) = P (.bl (decide (i = j))) c := by
  show P (.bl (PyData.eqv (.int i) (.int j))) c = _
  congr 2
theorem q_nei (i j : Int) (c : Be) (P : D → Be → Prop) (E : D → Be → Prop) : ((Eo.opt (gNeD (.int i) (.int j)) c).aft P E) = P (.bl (!decide (i = j))) c := by
  show P (.bl (!PyData.eqv (.int i) (.int j))) c = _
  congr 3
theorem q_mSeq (m1 m2 : MS) (C : Co) (ρ : Rho) (c : Be) : ((mSeq m1 m2 ρ c).af C) = ((m1 ρ c).af { C with nx := fun ρ c => (m2 ρ c).af C }) := by simp only [Eo.af_eq, Ro.af_eq, So.af_eq]; exact (So.aft_seq ..)
theorem q_mIfS (t : MT) (m1 m2 : MS) (C : Co) (ρ : Rho) (c : Be) : ((mIfS t m1 m2 ρ c).af C) = ((t ρ c).af (fun b c => match b with | true => (m1 ρ c).af C | false => (m2 ρ c).af C) (fun e b => C.ex e ρ b)) := by simp only [Eo.af_eq, Ro.af_eq, So.af_eq]; exact ((So.aft_of ..).trans (congrArg (fun f => Eo.aft _ f _) (funext fun b => funext fun c => by cases b <;> rfl)))
theorem q_mSet (i : Nat) (m : ME) (C : Co) (ρ : Rho) (c : Be) : ((mSet i m ρ c).af C) = ((m ρ c).af (fun d c => C.nx (ρ.set i (.val d)) c) (fun e b => C.ex e ρ b)) := by simp only [Eo.af_eq, Ro.af_eq, So.af_eq]; exact (So.aft_of ..)
theorem q_mOwn (i : Nat) (m : MA) (C : Co) (ρ : Rho) (c : Be) : ((mOwn i m ρ c).af C) = ((m ρ c).af (fun ds c => C.nx (ρ.set i (.own ds)) c) (fun e b => C.ex e ρ b)) := by simp only [Eo.af_eq, Ro.af_eq, So.af_eq]; exact (So.aft_of ..)
theorem q_mAsg (m : ME) (g : MG) (C : Co) (ρ : Rho) (c : Be) : ((mAsg m g ρ c).af C) = ((m ρ c).af (fun d c => (nxO (g d ρ) c).af C) (fun e b => C.ex e ρ b)) := by simp only [Eo.af_eq, Ro.af_eq, So.af_eq]; exact (So.aft_of ..)
theorem q_mPar (i j : Nat) (m : MA) (C : Co) (ρ : Rho) (c : Be) : ((mPar i j m ρ c).af C) = ((m ρ c).af (fun ds c => match ds with | [d, e] => C.nx ((ρ.set i (.val d)).set j (.val e)) c | _ => False) (fun e b => C.ex e ρ b)) := by simp only [Eo.af_eq, Ro.af_eq, So.af_eq]; exact ((So.aft_of ..).trans (congrArg (fun f => Eo.aft _ f _) (funext fun ds => funext fun c => by split <;> (first | rfl | (split <;> first | rfl | simp_all)))))
theorem q_mPar3 (i j l : Nat) (m : MA) (C : Co) (ρ : Rho) (c : Be) : ((mPar3 i j l m ρ c).af C) = ((m ρ c).af (fun ds c => match ds with | [d, e, f] => C.nx (((ρ.set i (.val d)).set j (.val e)).set l (.val f)) c | _ => False) (fun e b => C.ex e ρ b)) := by simp only [Eo.af_eq, Ro.af_eq, So.af_eq]; exact ((So.aft_of ..).trans (congrArg (fun f => Eo.aft _ f _) (funext fun ds => funext fun c => by split <;> (first | rfl | (split <;> first | rfl | simp_all)))))
theorem q_mParX3 (i j l : Nat) (m : MX) (C : Co) (ρ : Rho) (c : Be) : ((mParX3 i j l m ρ c).af C) = ((m ρ c).af (fun ds c => match ds with | [d, e, f] => C.nx (((ρ.set i d).set j e).set l f) c | _ => False) (fun e b => C.ex e ρ b)) := by simp only [Eo.af_eq, Ro.af_eq, So.af_eq]; exact ((So.aft_of ..).trans (congrArg (fun f => Eo.aft _ f _) (funext fun ds => funext fun c => by split <;> (first | rfl | (split <;> first | rfl | simp_all)))))
theorem q_mRet (m : ME) (C : Co) (ρ : Rho) (c : Be) : ((mRet m ρ c).af C) = ((m ρ c).af (fun d c => C.rt d c) (fun e b => C.ex e ρ b)) := by simp only [Eo.af_eq, Ro.af_eq, So.af_eq]; exact (So.aft_of ..)
theorem q_mDrop (m : ME) (C : Co) (ρ : Rho) (c : Be) : ((mDrop m ρ c).af C) = ((m ρ c).af (fun _ c => C.nx ρ c) (fun e b => C.ex e ρ b)) := by simp only [Eo.af_eq, Ro.af_eq, So.af_eq]; exact (So.aft_of ..)
theorem q_mNever  (C : Co) (ρ : Rho) (c : Be) : ((mNever ρ c).af C) = (False) := by simp only [Eo.af_eq, Ro.af_eq, So.af_eq]; exact (propext ⟨fun h => h, fun h => h⟩)
theorem q_mNext  (C : Co) (ρ : Rho) (c : Be) : ((mNext ρ c).af C) = (C.nx ρ c) := by simp only [Eo.af_eq, Ro.af_eq, So.af_eq]; exact (propext ⟨fun h => h, fun h => h⟩)
theorem q_mCont  (C : Co) (ρ : Rho) (c : Be) : ((mCont ρ c).af C) = (C.ct ρ c) := by simp only [Eo.af_eq, Ro.af_eq, So.af_eq]; exact (propext ⟨fun h => h, fun h => h⟩)
theorem q_mPost (vs : List Nat) (m : MS) (C : Co) (ρ : Rho) (c : Be) : ((mPost vs m ρ c).af C) = ((m ρ c).af { C with nx := fun r b => C.nx (wipeR r vs) b, bk := fun r b => C.bk (wipeR r vs) b, ct := fun r b => C.ct (wipeR r vs) b }) := by simp only [Eo.af_eq, Ro.af_eq, So.af_eq]; exact (So.aft_wipe ..)
theorem q_mFor (mi : MI) (g : MG) (mb : MS) (C : Co) (ρ : Rho) (c : Be) : ((mFor mi g mb ρ c).af C) = ((mi ρ c).af (fun ds c => (forF g mb ds ρ c).af C) (fun e b => C.ex e ρ b)) := by simp only [Eo.af_eq, Ro.af_eq, So.af_eq]; exact (So.aft_of ..)
theorem q_nxO (ρ : Rho) (c : Be) (C : Co) : ((nxO (some ρ) c).af C) = (C.nx ρ c) := by simp only [Eo.af_eq, Ro.af_eq, So.af_eq]; exact (propext ⟨fun h => h, fun h => h⟩)
theorem q_mC (d : D) (P : D → Be → Prop) (E : D → Be → Prop) (ρ : Rho) (c : Be) : ((mC d ρ c).af P E) = (P d c) := by simp only [Eo.af_eq, Ro.af_eq, So.af_eq]; exact (propext ⟨fun h => h, fun h => h⟩)
theorem q_mTest (m : ME) (P : Bool → Be → Prop) (E : D → Be → Prop) (ρ : Rho) (c : Be) : ((mTest m ρ c).af P E) = ((m ρ c).af (fun d c => (Eo.opt (toB d) c).af P E) E) := by simp only [Eo.af_eq, Ro.af_eq, So.af_eq]; exact (Eo.aft_bind ..)
theorem q_mBin (g : G2) (ma mb : ME) (P : D → Be → Prop) (E : D → Be → Prop) (ρ : Rho) (c : Be) : ((mBin g ma mb ρ c).af P E) = ((ma ρ c).af (fun d c => (mb ρ c).af (fun e c => (Eo.opt (g d e) c).af P E) E) E) := by simp only [Eo.af_eq, Ro.af_eq, So.af_eq]; exact (by unfold mBin; simp only [Eo.aft_bind])
theorem q_mUn (g : G1) (ma : ME) (P : D → Be → Prop) (E : D → Be → Prop) (ρ : Rho) (c : Be) : ((mUn g ma ρ c).af P E) = ((ma ρ c).af (fun d c => (Eo.opt (g d) c).af P E) E) := by simp only [Eo.af_eq, Ro.af_eq, So.af_eq]; exact (Eo.aft_bind ..)
theorem q_mCB (g : GL) (m : MA) (P : D → Be → Prop) (E : D → Be → Prop) (ρ : Rho) (c : Be) : ((mCB g m ρ c).af P E) = ((m ρ c).af (fun ds c => (Eo.opt (g ds) c).af P E) E) := by simp only [Eo.af_eq, Ro.af_eq, So.af_eq]; exact (Eo.aft_bind ..)
theorem q_mNil  (P : List D → Be → Prop) (E : D → Be → Prop) (ρ : Rho) (c : Be) : ((mNil ρ c).af P E) = (P [] c) := by simp only [Eo.af_eq, Ro.af_eq, So.af_eq]; exact (propext ⟨fun h => h, fun h => h⟩)
theorem q_mCons (m : ME) (r : MA) (P : List D → Be → Prop) (E : D → Be → Prop) (ρ : Rho) (c : Be) : ((mCons m r ρ c).af P E) = ((m ρ c).af (fun d c => (r ρ c).af (fun ds c => P (d :: ds) c) E) E) := by simp only [Eo.af_eq, Ro.af_eq, So.af_eq]; exact (by unfold mCons; simp only [Eo.aft_bind, Eo.aft_ok])
theorem q_mTup (m : MA) (P : D → Be → Prop) (E : D → Be → Prop) (ρ : Rho) (c : Be) : ((mTup m ρ c).af P E) = ((m ρ c).af (fun ds c => ds.length ≤ 16777216 ∧ P (.tup ds) c) E) := by simp only [Eo.af_eq, Ro.af_eq, So.af_eq]; exact (by unfold mTup few; simp only [Eo.aft_bind, Eo.aft_ok]; congr 1; funext ds c; by_cases h : ds.length ≤ 16777216 <;> simp [h, Eo.opt, Eo.aft])
theorem q_mNew (m : MA) (P : List D → Be → Prop) (E : D → Be → Prop) (ρ : Rho) (c : Be) : ((mNew m ρ c).af P E) = ((m ρ c).af (fun ds c => ds.length ≤ 16777216 ∧ P ds c) E) := by simp only [Eo.af_eq, Ro.af_eq, So.af_eq]; exact (by unfold mNew few; simp only [Eo.aft_bind, Eo.aft_ok]; congr 1; funext ds c; by_cases h : ds.length ≤ 16777216 <;> simp [h, Eo.opt, Eo.aft])
theorem q_mOfL (m : MA) (P : D → Be → Prop) (E : D → Be → Prop) (ρ : Rho) (c : Be) : ((mOfL m ρ c).af P E) = ((m ρ c).af (fun ds c => P (.lst ds) c) E) := by simp only [Eo.af_eq, Ro.af_eq, So.af_eq]; exact (Eo.aft_bind ..)
theorem q_mCall (F : FP) (m : MA) (P : D → Be → Prop) (E : D → Be → Prop) (ρ : Rho) (c : Be) : ((mCall F m ρ c).af P E) = ((m ρ c).af (fun ds c => (F ds).af (fun d => P d c) (fun e => E e c)) E) := by simp only [Eo.af_eq, Ro.af_eq, So.af_eq]; exact (by unfold mCall; simp only [Eo.aft_bind, Eo.aft_lift])
theorem q_mChain (g g2 : G2) (ma mb mc : ME) (P : D → Be → Prop) (E : D → Be → Prop) (ρ : Rho) (c : Be) : ((mChain g g2 ma mb mc ρ c).af P E) = ((ma ρ c).af (fun d c => (mb ρ c).af (fun e c => (Eo.opt (g d e) c).af (fun z c => match z with | .bl true => (mc ρ c).af (fun f c => (Eo.opt (g2 e f) c).af P E) E | .bl false => P (.bl false) c | _ => False) E) E) E) := by simp only [Eo.af_eq, Ro.af_eq, So.af_eq]; exact (by unfold mChain; simp only [Eo.aft_bind]; congr 1; funext d c; congr 1; funext e c; congr 1; funext z c; cases z <;> (first | rfl | (rename_i b; cases b <;> first | rfl | exact Eo.aft_bind ..)))
theorem q_mAnd (t u : MT) (P : Bool → Be → Prop) (E : D → Be → Prop) (ρ : Rho) (c : Be) : ((mAnd t u ρ c).af P E) = ((t ρ c).af (fun b c => match b with | true => (u ρ c).af P E | false => P false c) E) := by simp only [Eo.af_eq, Ro.af_eq, So.af_eq]; exact (by unfold mAnd; simp only [Eo.aft_bind]; congr 1; funext b c; cases b <;> rfl)
theorem q_mOr (t u : MT) (P : Bool → Be → Prop) (E : D → Be → Prop) (ρ : Rho) (c : Be) : ((mOr t u ρ c).af P E) = ((t ρ c).af (fun b c => match b with | true => P true c | false => (u ρ c).af P E) E) := by simp only [Eo.af_eq, Ro.af_eq, So.af_eq]; exact (by unfold mOr; simp only [Eo.aft_bind]; congr 1; funext b c; cases b <;> rfl)
theorem q_mNot (t : MT) (P : Bool → Be → Prop) (E : D → Be → Prop) (ρ : Rho) (c : Be) : ((mNot t ρ c).af P E) = ((t ρ c).af (fun b c => P (!b) c) E) := by simp only [Eo.af_eq, Ro.af_eq, So.af_eq]; exact (Eo.aft_bind ..)
theorem q_mIf (t : MT) (ma mb : ME) (P : D → Be → Prop) (E : D → Be → Prop) (ρ : Rho) (c : Be) : ((mIf t ma mb ρ c).af P E) = ((t ρ c).af (fun b c => match b with | true => (ma ρ c).af P E | false => (mb ρ c).af P E) E) := by simp only [Eo.af_eq, Ro.af_eq, So.af_eq]; exact (by unfold mIf; simp only [Eo.aft_bind]; congr 1; funext b c; cases b <;> rfl)
theorem q_mAndV (ma mb : ME) (P : D → Be → Prop) (E : D → Be → Prop) (ρ : Rho) (c : Be) : ((mAndV ma mb ρ c).af P E) = ((ma ρ c).af (fun d c => match d with | .bl true => (mb ρ c).af P E | .bl false => P (.bl false) c | _ => False) E) := by simp only [Eo.af_eq, Ro.af_eq, So.af_eq]; exact (by unfold mAndV; simp only [Eo.aft_bind]; congr 1; funext d c; cases d <;> (first | rfl | (rename_i b; cases b <;> rfl)))
theorem q_mOrV (ma mb : ME) (P : D → Be → Prop) (E : D → Be → Prop) (ρ : Rho) (c : Be) : ((mOrV ma mb ρ c).af P E) = ((ma ρ c).af (fun d c => match d with | .bl false => (mb ρ c).af P E | .bl true => P (.bl true) c | _ => False) E) := by simp only [Eo.af_eq, Ro.af_eq, So.af_eq]; exact (by unfold mOrV; simp only [Eo.aft_bind]; congr 1; funext d c; cases d <;> (first | rfl | (rename_i b; cases b <;> rfl)))
theorem q_mNotV (ma : ME) (P : D → Be → Prop) (E : D → Be → Prop) (ρ : Rho) (c : Be) : ((mNotV ma ρ c).af P E) = ((ma ρ c).af (fun d c => (Eo.opt (gNotB d) c).af P E) E) := by simp only [Eo.af_eq, Ro.af_eq, So.af_eq]; exact (Eo.aft_bind ..)
theorem q_mCut (m : ME) (ml mh : MO) (P : List D → Be → Prop) (E : D → Be → Prop) (ρ : Rho) (c : Be) : ((mCut m ml mh ρ c).af P E) = ((m ρ c).af (fun d c => (ml ρ c).af (fun l c => (mh ρ c).af (fun h c => match d with | .lst ds => P (cutD ds l h) c | _ => False) E) E) E) := by simp only [Eo.af_eq, Ro.af_eq, So.af_eq]; exact (by unfold mCut; simp only [Eo.aft_bind, Eo.aft_ok]; congr 1; funext d c; congr 1; funext l c; congr 1; funext h c; cases d <;> rfl)
theorem q_mSome (m : ME) (P : Option Int → Be → Prop) (E : D → Be → Prop) (ρ : Rho) (c : Be) : ((mSome m ρ c).af P E) = ((m ρ c).af (fun d c => match d with | .int i => P (some i) c | _ => False) E) := by simp only [Eo.af_eq, Ro.af_eq, So.af_eq]; exact (by unfold mSome; simp only [Eo.aft_bind, Eo.aft_ok]; congr 1; funext d c; cases d <;> rfl)
theorem q_mNo  (P : Option Int → Be → Prop) (E : D → Be → Prop) (ρ : Rho) (c : Be) : ((mNo ρ c).af P E) = (P none c) := by simp only [Eo.af_eq, Ro.af_eq, So.af_eq]; exact (propext ⟨fun h => h, fun h => h⟩)
theorem q_mCat (ma mb : ME) (P : List D → Be → Prop) (E : D → Be → Prop) (ρ : Rho) (c : Be) : ((mCat ma mb ρ c).af P E) = ((ma ρ c).af (fun d c => (mb ρ c).af (fun e c => match d, e with | .lst ds, .lst es => ds.length + es.length ≤ 16777216 ∧ P (ds ++ es) c | _, _ => False) E) E) := by simp only [Eo.af_eq, Ro.af_eq, So.af_eq]; exact (by unfold mCat; simp only [Eo.aft_bind]; congr 1; funext d c; congr 1; funext e c; cases d <;> (first | rfl | (cases e <;> first | rfl | (rename_i ds es; simp only [catD]; by_cases h : ds.length + es.length ≤ 16777216 <;> simp [h, Eo.opt, Eo.aft]))))
theorem q_mTuple (m : ME) (P : D → Be → Prop) (E : D → Be → Prop) (ρ : Rho) (c : Be) : ((mTuple m ρ c).af P E) = ((m ρ c).af (fun d c => (Eo.opt ((toS d).map .tup) c).af P E) E) := by simp only [Eo.af_eq, Ro.af_eq, So.af_eq]; exact (Eo.aft_bind ..)
theorem q_iLst (m : ME) (P : List D → Be → Prop) (E : D → Be → Prop) (ρ : Rho) (c : Be) : ((iLst m ρ c).af P E) = ((m ρ c).af (fun d c => (Eo.opt (toL d) c).af P E) E) := by simp only [Eo.af_eq, Ro.af_eq, So.af_eq]; exact (Eo.aft_bind ..)
theorem q_iTpl (m : ME) (P : List D → Be → Prop) (E : D → Be → Prop) (ρ : Rho) (c : Be) : ((iTpl m ρ c).af P E) = ((m ρ c).af (fun d c => (Eo.opt (toT d) c).af P E) E) := by simp only [Eo.af_eq, Ro.af_eq, So.af_eq]; exact (Eo.aft_bind ..)
theorem q_iSeq (m : ME) (P : List D → Be → Prop) (E : D → Be → Prop) (ρ : Rho) (c : Be) : ((iSeq m ρ c).af P E) = ((m ρ c).af (fun d c => (Eo.opt (toS d) c).af P E) E) := by simp only [Eo.af_eq, Ro.af_eq, So.af_eq]; exact (Eo.aft_bind ..)
theorem q_iR1 (m : MA) (P : List D → Be → Prop) (E : D → Be → Prop) (ρ : Rho) (c : Be) : ((iR1 m ρ c).af P E) = ((m ρ c).af (fun ds c => (Eo.opt (toR1 ds) c).af P E) E) := by simp only [Eo.af_eq, Ro.af_eq, So.af_eq]; exact (Eo.aft_bind ..)
theorem q_iZp (m : MA) (P : List D → Be → Prop) (E : D → Be → Prop) (ρ : Rho) (c : Be) : ((iZp m ρ c).af P E) = ((m ρ c).af (fun ds c => (Eo.opt (toZp ds) c).af P E) E) := by simp only [Eo.af_eq, Ro.af_eq, So.af_eq]; exact (Eo.aft_bind ..)
theorem q_iEn (m : MA) (P : List D → Be → Prop) (E : D → Be → Prop) (ρ : Rho) (c : Be) : ((iEn m ρ c).af P E) = ((m ρ c).af (fun ds c => (Eo.opt (toEn ds) c).af P E) E) := by simp only [Eo.af_eq, Ro.af_eq, So.af_eq]; exact (Eo.aft_bind ..)
theorem q_iR2A (m : MA) (P : List D → Be → Prop) (E : D → Be → Prop) (ρ : Rho) (c : Be) : ((iR2A m ρ c).af P E) = ((m ρ c).af (fun ds c => (Eo.opt (toR2 ds) c).af P E) E) := by simp only [Eo.af_eq, Ro.af_eq, So.af_eq]; exact (Eo.aft_bind ..)
theorem q_mLc (mi : MI) (g : MG) (mt : MT) (me : ME) (vs : List Nat) (P : List D → Be → Prop) (E : D → Be → Prop) (ρ : Rho) (c : Be) : ((mLc mi g mt me vs ρ c).af P E) = ((mi ρ c).af (fun ds c => ds.length ≤ 10000000 ∧ (lcF g mt me (wipeR ρ vs) ds [] c).af P E) E) := by simp only [Eo.af_eq, Ro.af_eq, So.af_eq]; exact (by unfold mLc fewC; simp only [Eo.aft_bind]; congr 1; funext ds c; by_cases h : ds.length ≤ 10000000 <;> simp [h, Eo.opt, Eo.aft])
theorem q_mYes  (P : Bool → Be → Prop) (E : D → Be → Prop) (ρ : Rho) (c : Be) : ((mYes ρ c).af P E) = (P true c) := by simp only [Eo.af_eq, Ro.af_eq, So.af_eq]; exact (propext ⟨fun h => h, fun h => h⟩)
theorem q_opt (d : D) (c : Be) (P : D → Be → Prop) (E : D → Be → Prop) : ((Eo.opt (some d) c).af P E) = (P d c) := by simp only [Eo.af_eq, Ro.af_eq, So.af_eq]; exact (propext ⟨fun h => h, fun h => h⟩)
theorem q_optL (d : List D) (c : Be) (P : List D → Be → Prop) (E : D → Be → Prop) : ((Eo.opt (some d) c).af P E) = (P d c) := by simp only [Eo.af_eq, Ro.af_eq, So.af_eq]; exact (propext ⟨fun h => h, fun h => h⟩)
theorem q_optB (d : Bool) (c : Be) (P : Bool → Be → Prop) (E : D → Be → Prop) : ((Eo.opt (some d) c).af P E) = (P d c) := by simp only [Eo.af_eq, Ro.af_eq, So.af_eq]; exact (propext ⟨fun h => h, fun h => h⟩)
theorem q_xNil (P : List Sl → Be → Prop) (E : D → Be → Prop) (ρ : Rho) (c : Be) : ((xNil ρ c).af P E) = (P [] c) := by simp only [Eo.af_eq, Ro.af_eq, So.af_eq]; exact (propext ⟨fun h => h, fun h => h⟩)
theorem q_xE (m : ME) (r : MX) (P : List Sl → Be → Prop) (E : D → Be → Prop) (ρ : Rho) (c : Be) : ((xE m r ρ c).af P E) = ((m ρ c).af (fun d c => (r ρ c).af (fun ss c => P (.val d :: ss) c) E) E) := by simp only [Eo.af_eq, Ro.af_eq, So.af_eq]; exact (by unfold xE; simp only [Eo.aft_bind, Eo.aft_ok])
theorem q_xF (m : MA) (r : MX) (P : List Sl → Be → Prop) (E : D → Be → Prop) (ρ : Rho) (c : Be) : ((xF m r ρ c).af P E) = ((m ρ c).af (fun ds c => (r ρ c).af (fun ss c => P (.own ds :: ss) c) E) E) := by simp only [Eo.af_eq, Ro.af_eq, So.af_eq]; exact (by unfold xF; simp only [Eo.aft_bind, Eo.aft_ok])
theorem q_gIi (f : Int → Int → D) (i j : Int) (c : Be) (P : D → Be → Prop) (E : D → Be → Prop) : ((Eo.opt (gI f (.int i) (.int j)) c).af P E) = (P (f i j) c) := by simp only [Eo.af_eq, Ro.af_eq, So.af_eq]; exact (propext ⟨fun h => h, fun h => h⟩)
theorem q_gAdd (i j : Int) (c : Be) (P : D → Be → Prop) (E : D → Be → Prop) : ((Eo.opt (gAdd (.int i) (.int j)) c).af P E) = (P (.int (i + j)) c) := by simp only [Eo.af_eq, Ro.af_eq, So.af_eq]; exact (propext ⟨fun h => h, fun h => h⟩)
theorem q_gSub (i j : Int) (c : Be) (P : D → Be → Prop) (E : D → Be → Prop) : ((Eo.opt (gSub (.int i) (.int j)) c).af P E) = (P (.int (i - j)) c) := by simp only [Eo.af_eq, Ro.af_eq, So.af_eq]; exact (propext ⟨fun h => h, fun h => h⟩)
theorem q_gLt (i j : Int) (c : Be) (P : D → Be → Prop) (E : D → Be → Prop) : ((Eo.opt (gLt (.int i) (.int j)) c).af P E) = (P (.bl (decide (i < j))) c) := by simp only [Eo.af_eq, Ro.af_eq, So.af_eq]; exact (propext ⟨fun h => h, fun h => h⟩)
theorem q_gLe (i j : Int) (c : Be) (P : D → Be → Prop) (E : D → Be → Prop) : ((Eo.opt (gLe (.int i) (.int j)) c).af P E) = (P (.bl (decide (i ≤ j))) c) := by simp only [Eo.af_eq, Ro.af_eq, So.af_eq]; exact (propext ⟨fun h => h, fun h => h⟩)
theorem q_gGt (i j : Int) (c : Be) (P : D → Be → Prop) (E : D → Be → Prop) : ((Eo.opt (gGt (.int i) (.int j)) c).af P E) = (P (.bl (decide (j < i))) c) := by simp only [Eo.af_eq, Ro.af_eq, So.af_eq]; exact (propext ⟨fun h => h, fun h => h⟩)
theorem q_gGe (i j : Int) (c : Be) (P : D → Be → Prop) (E : D → Be → Prop) : ((Eo.opt (gGe (.int i) (.int j)) c).af P E) = (P (.bl (decide (j ≤ i))) c) := by simp only [Eo.af_eq, Ro.af_eq, So.af_eq]; exact (propext ⟨fun h => h, fun h => h⟩)
theorem q_gLtA (i j : Int) (c : Be) (P : D → Be → Prop) (E : D → Be → Prop) : ((Eo.opt (gLtA (.int i) (.int j)) c).af P E) = (P (.bl (decide (i < j))) c) := by simp only [Eo.af_eq, Ro.af_eq, So.af_eq]; exact (propext ⟨fun h => h, fun h => h⟩)
theorem q_gLeA (i j : Int) (c : Be) (P : D → Be → Prop) (E : D → Be → Prop) : ((Eo.opt (gLeA (.int i) (.int j)) c).af P E) = (P (.bl (decide (i ≤ j))) c) := by simp only [Eo.af_eq, Ro.af_eq, So.af_eq]; exact (propext ⟨fun h => h, fun h => h⟩)
theorem q_gMul (i j : Int) (c : Be) (P : D → Be → Prop) (E : D → Be → Prop) : ((Eo.opt (gMul (.int i) (.int j)) c).af P E) = ((Sm i ∧ Sm j) ∧ P (.int (i * j)) c) := by simp only [Eo.af_eq, Ro.af_eq, So.af_eq]; exact (q_ic ..)
theorem q_gMod (i j : Int) (c : Be) (P : D → Be → Prop) (E : D → Be → Prop) : ((Eo.opt (gMod (.int i) (.int j)) c).af P E) = ((0 < j) ∧ P (.int (i % j)) c) := by simp only [Eo.af_eq, Ro.af_eq, So.af_eq]; exact (q_ic ..)
theorem q_gPow (i j : Int) (c : Be) (P : D → Be → Prop) (E : D → Be → Prop) : ((Eo.opt (gPow (.int i) (.int j)) c).af P E) = ((0 ≤ j ∧ j ≤ 200 ∧ Sm i) ∧ P (.int (i ^ j.toNat)) c) := by simp only [Eo.af_eq, Ro.af_eq, So.af_eq]; exact (q_ic ..)
theorem q_gNeg (i : Int) (c : Be) (P : D → Be → Prop) (E : D → Be → Prop) : ((Eo.opt (gNeg (.int i)) c).af P E) = (P (.int (-i)) c) := by simp only [Eo.af_eq, Ro.af_eq, So.af_eq]; exact (propext ⟨fun h => h, fun h => h⟩)
theorem q_gAbs (i : Int) (c : Be) (P : D → Be → Prop) (E : D → Be → Prop) : ((Eo.opt (gAbs [.int i]) c).af P E) = (P (.int (if i < 0 then -i else i)) c) := by simp only [Eo.af_eq, Ro.af_eq, So.af_eq]; exact (propext ⟨fun h => h, fun h => h⟩)
theorem q_gLenL (ds : List D) (c : Be) (P : D → Be → Prop) (E : D → Be → Prop) : ((Eo.opt (gLen [.lst ds]) c).af P E) = (P (.int ds.length) c) := by simp only [Eo.af_eq, Ro.af_eq, So.af_eq]; exact (propext ⟨fun h => h, fun h => h⟩)
theorem q_gLenT (ds : List D) (c : Be) (P : D → Be → Prop) (E : D → Be → Prop) : ((Eo.opt (gLen [.tup ds]) c).af P E) = (P (.int ds.length) c) := by simp only [Eo.af_eq, Ro.af_eq, So.af_eq]; exact (propext ⟨fun h => h, fun h => h⟩)
theorem q_gEqS (x y : Str) (c : Be) (P : D → Be → Prop) (E : D → Be → Prop) : ((Eo.opt (gEqS (.str x) (.str y)) c).af P E) = (P (.bl (decide (x = y))) c) := by simp only [Eo.af_eq, Ro.af_eq, So.af_eq]; exact (propext ⟨fun h => h, fun h => h⟩)
theorem q_gNeS (x y : Str) (c : Be) (P : D → Be → Prop) (E : D → Be → Prop) : ((Eo.opt (gNeS (.str x) (.str y)) c).af P E) = (P (.bl (!decide (x = y))) c) := by simp only [Eo.af_eq, Ro.af_eq, So.af_eq]; exact (propext ⟨fun h => h, fun h => h⟩)
theorem q_gIsN (d : D) (c : Be) (P : D → Be → Prop) (E : D → Be → Prop) : ((Eo.opt (gIsN d .non) c).af P E) = (P (.bl d.isNon) c) := by simp only [Eo.af_eq, Ro.af_eq, So.af_eq]; exact (propext ⟨fun h => h, fun h => h⟩)
theorem q_gNotB (b : Bool) (c : Be) (P : D → Be → Prop) (E : D → Be → Prop) : ((Eo.opt (gNotB (.bl b)) c).af P E) = (P (.bl (!b)) c) := by simp only [Eo.af_eq, Ro.af_eq, So.af_eq]; exact (propext ⟨fun h => h, fun h => h⟩)
theorem q_gEqI (i j : Int) (c : Be) (P : D → Be → Prop) (E : D → Be → Prop) : ((Eo.opt (gEqA (.int i) (.int j)) c).af P E) = (P (.bl (decide (i = j))) c) := by simp only [Eo.af_eq, Ro.af_eq, So.af_eq]; exact (q_eqi i j c P E)
theorem q_gNeI (i j : Int) (c : Be) (P : D → Be → Prop) (E : D → Be → Prop) : ((Eo.opt (gNeA (.int i) (.int j)) c).af P E) = (P (.bl (!decide (i = j))) c) := by simp only [Eo.af_eq, Ro.af_eq, So.af_eq]; exact (q_nei i j c P E)
theorem q_gEqSA (x y : Str) (c : Be) (P : D → Be → Prop) (E : D → Be → Prop) : ((Eo.opt (gEqA (.str x) (.str y)) c).af P E) = (P (.bl (decide (x = y))) c) := by simp only [Eo.af_eq, Ro.af_eq, So.af_eq]; exact (propext ⟨fun h => h, fun h => h⟩)
theorem q_gNeSA (x y : Str) (c : Be) (P : D → Be → Prop) (E : D → Be → Prop) : ((Eo.opt (gNeA (.str x) (.str y)) c).af P E) = (P (.bl (!decide (x = y))) c) := by simp only [Eo.af_eq, Ro.af_eq, So.af_eq]; exact (propext ⟨fun h => h, fun h => h⟩)
theorem q_ix0 (a : D) (r : List D) (c : Be) (P : D → Be → Prop) (E : D → Be → Prop) : ((Eo.opt (gIx (.tup (a :: r)) (.int 0)) c).af P E) = (P a c) := by simp only [Eo.af_eq, Ro.af_eq, So.af_eq]; exact (congrArg (fun o => (Eo.opt o c).aft P E) (show gIx (.tup (a :: r)) (.int 0) = some a from atq (a :: r) 0 a rfl))
theorem q_ix1 (a b : D) (r : List D) (c : Be) (P : D → Be → Prop) (E : D → Be → Prop) : ((Eo.opt (gIx (.tup (a :: b :: r)) (.int 1)) c).af P E) = (P b c) := by simp only [Eo.af_eq, Ro.af_eq, So.af_eq]; exact (congrArg (fun o => (Eo.opt o c).aft P E) (show gIx (.tup (a :: b :: r)) (.int 1) = some b from atq (a :: b :: r) 1 b rfl))
theorem q_ix2 (a b d : D) (r : List D) (c : Be) (P : D → Be → Prop) (E : D → Be → Prop) : ((Eo.opt (gIx (.tup (a :: b :: d :: r)) (.int 2)) c).af P E) = (P d c) := by simp only [Eo.af_eq, Ro.af_eq, So.af_eq]; exact (congrArg (fun o => (Eo.opt o c).aft P E) (show gIx (.tup (a :: b :: d :: r)) (.int 2) = some d from atq (a :: b :: d :: r) 2 d rfl))
theorem q_ixl0 (a : D) (r : List D) (c : Be) (P : D → Be → Prop) (E : D → Be → Prop) : ((Eo.opt (gIx (.lst (a :: r)) (.int 0)) c).af P E) = (P a c) := by simp only [Eo.af_eq, Ro.af_eq, So.af_eq]; exact (congrArg (fun o => (Eo.opt o c).aft P E) (show gIx (.lst (a :: r)) (.int 0) = some a from atq (a :: r) 0 a rfl))
theorem q_ixl1 (a b : D) (r : List D) (c : Be) (P : D → Be → Prop) (E : D → Be → Prop) : ((Eo.opt (gIx (.lst (a :: b :: r)) (.int 1)) c).af P E) = (P b c) := by simp only [Eo.af_eq, Ro.af_eq, So.af_eq]; exact (congrArg (fun o => (Eo.opt o c).aft P E) (show gIx (.lst (a :: b :: r)) (.int 1) = some b from atq (a :: b :: r) 1 b rfl))
theorem q_ixl2 (a b d : D) (r : List D) (c : Be) (P : D → Be → Prop) (E : D → Be → Prop) : ((Eo.opt (gIx (.lst (a :: b :: d :: r)) (.int 2)) c).af P E) = (P d c) := by simp only [Eo.af_eq, Ro.af_eq, So.af_eq]; exact (congrArg (fun o => (Eo.opt o c).aft P E) (show gIx (.lst (a :: b :: d :: r)) (.int 2) = some d from atq (a :: b :: d :: r) 2 d rfl))
theorem q_p0 (p : Int × Int) (c : Be) (P : D → Be → Prop) (E : D → Be → Prop) : ((Eo.opt (gIx (pr p) (.int 0)) c).af P E) = (P (.int p.1) c) := by simp only [Eo.af_eq, Ro.af_eq, So.af_eq]; exact (propext ⟨fun h => h, fun h => h⟩)
theorem q_p1 (p : Int × Int) (c : Be) (P : D → Be → Prop) (E : D → Be → Prop) : ((Eo.opt (gIx (pr p) (.int 1)) c).af P E) = (P (.int p.2) c) := by simp only [Eo.af_eq, Ro.af_eq, So.af_eq]; exact (propext ⟨fun h => h, fun h => h⟩)
theorem q_toB (b : Bool) (c : Be) (P : Bool → Be → Prop) (E : D → Be → Prop) : ((Eo.opt (toB (.bl b)) c).af P E) = (P b c) := by simp only [Eo.af_eq, Ro.af_eq, So.af_eq]; exact (propext ⟨fun h => h, fun h => h⟩)
theorem q_toLl (ds : List D) (c : Be) (P : List D → Be → Prop) (E : D → Be → Prop) : ((Eo.opt (toL (.lst ds)) c).af P E) = (P ds c) := by simp only [Eo.af_eq, Ro.af_eq, So.af_eq]; exact (propext ⟨fun h => h, fun h => h⟩)
theorem q_toTt (ds : List D) (c : Be) (P : List D → Be → Prop) (E : D → Be → Prop) : ((Eo.opt (toT (.tup ds)) c).af P E) = (P ds c) := by simp only [Eo.af_eq, Ro.af_eq, So.af_eq]; exact (propext ⟨fun h => h, fun h => h⟩)
theorem q_toSl (ds : List D) (c : Be) (P : List D → Be → Prop) (E : D → Be → Prop) : ((Eo.opt (toS (.lst ds)) c).af P E) = (P ds c) := by simp only [Eo.af_eq, Ro.af_eq, So.af_eq]; exact (propext ⟨fun h => h, fun h => h⟩)
theorem q_toSt (ds : List D) (c : Be) (P : List D → Be → Prop) (E : D → Be → Prop) : ((Eo.opt (toS (.tup ds)) c).af P E) = (P ds c) := by simp only [Eo.af_eq, Ro.af_eq, So.af_eq]; exact (propext ⟨fun h => h, fun h => h⟩)
theorem q_toZp (ds es : List D) (c : Be) (P : List D → Be → Prop) (E : D → Be → Prop) : ((Eo.opt (toZp [.lst ds, .lst es]) c).af P E) = (P (zipD ds es) c) := by simp only [Eo.af_eq, Ro.af_eq, So.af_eq]; exact (propext ⟨fun h => h, fun h => h⟩)
theorem q_toEn (ds : List D) (c : Be) (P : List D → Be → Prop) (E : D → Be → Prop) : ((Eo.opt (toEn [.lst ds]) c).af P E) = (P (enumD ds) c) := by simp only [Eo.af_eq, Ro.af_eq, So.af_eq]; exact (propext ⟨fun h => h, fun h => h⟩)
theorem q_toR1 (j : Int) (c : Be) (P : List D → Be → Prop) (E : D → Be → Prop) : ((Eo.opt (toR1 [.int j]) c).af P E) = ((-(2 ^ 62) ≤ j ∧ j < 2 ^ 62) ∧ P (rng 0 j.toNat) c) := by simp only [Eo.af_eq, Ro.af_eq, So.af_eq]; exact (by simp only [toR1]; split <;> rename_i h <;> simp only [h, Eo.opt, Eo.aft, true_and, false_and])
theorem q_toSm (ds : List D) (c : Be) (P : D → Be → Prop) (E : D → Be → Prop) : ((Eo.opt ((toS (.lst ds)).map .tup) c).af P E) = (P (.tup ds) c) := by simp only [Eo.af_eq, Ro.af_eq, So.af_eq]; exact (propext ⟨fun h => h, fun h => h⟩)
theorem q_gNm (i : Nat) (d : D) (ρ : Rho) : (gNm i d ρ) = (some (ρ.set i (.val d))) := Eq.trans rfl rfl
theorem q_gsNil (ρ : Rho) : (gsNil [] ρ) = (some ρ) := Eq.trans rfl rfl
theorem q_gsCons (m : MG) (r : MGs) (d : D) (ds : List D) (ρ : Rho) : (gsCons m r (d :: ds) ρ) = ((m d ρ).bind fun ρ => r ds ρ) := Eq.trans rfl rfl
theorem q_gTp1 (m : MGs) (a : D) (ρ : Rho) : (gTp 1 m (.tup [a]) ρ) = (m [a] ρ) := Eq.trans rfl rfl
theorem q_gTp2 (m : MGs) (a b : D) (ρ : Rho) : (gTp 2 m (.tup [a, b]) ρ) = (m [a, b] ρ) := Eq.trans rfl rfl
theorem q_gTpr (m : MGs) (p : Int × Int) (ρ : Rho) : (gTp 2 m (pr p) ρ) = (m [.int p.1, .int p.2] ρ) := Eq.trans rfl rfl
theorem q_gTp3 (m : MGs) (a b d : D) (ρ : Rho) : (gTp 3 m (.tup [a, b, d]) ρ) = (m [a, b, d] ρ) := Eq.trans rfl rfl
theorem q_gTp4 (m : MGs) (a b d e : D) (ρ : Rho) : (gTp 4 m (.tup [a, b, d, e]) ρ) = (m [a, b, d, e] ρ) := Eq.trans rfl rfl
theorem q_sbind (a : Rho) (f : Rho → Option Rho) : ((some a).bind f) = (f a) := Eq.trans rfl rfl
theorem qwv_0 (d : D) (r : Rho) (c : Be) (P : D → Be → Prop) (E : D → Be → Prop) : ((mVw 0 ((.val d) :: r) c).af P E) = (P d c) := by simp only [Eo.af_eq, Ro.af_eq, So.af_eq]; exact (propext ⟨fun h => h, fun h => h⟩)
theorem qwo_0 (ds : List D) (r : Rho) (c : Be) (P : D → Be → Prop) (E : D → Be → Prop) : ((mVw 0 ((.own ds) :: r) c).af P E) = (P (.lst ds) c) := by simp only [Eo.af_eq, Ro.af_eq, So.af_eq]; exact (propext ⟨fun h => h, fun h => h⟩)
theorem qx_0 (d : D) (r : Rho) (c : Be) (P : D → Be → Prop) (E : D → Be → Prop) : ((mVar 0 ((.val d) :: r) c).af P E) = (P d c) := by simp only [Eo.af_eq, Ro.af_eq, So.af_eq]; exact (propext ⟨fun h => h, fun h => h⟩)
theorem qapp_0 (ds : List D) (m : ME) (r : Rho) (c : Be) (C : Co) : ((mApp 0 m ((.own ds) :: r) c).af C) = ((m ((.own ds) :: r) c).af (fun d c => ds.length + 1 ≤ 16777216 ∧ C.nx (((.own ds) :: r).set 0 (.own (ds ++ [d]))) c) (fun e b => C.ex e ((.own ds) :: r) b)) := by simp only [Eo.af_eq, Ro.af_eq, So.af_eq]; exact ((So.aft_of ..).trans (congrArg (fun f => Eo.aft _ f _) (funext fun d => funext fun c => by by_cases h : ds.length + 1 ≤ 16777216 <;> simp only [h, if_true, if_false, true_and, false_and] <;> rfl)))
theorem qext_0 (ds : List D) (m : MA) (r : Rho) (c : Be) (C : Co) : ((mExt 0 m ((.own ds) :: r) c).af C) = ((m ((.own ds) :: r) c).af (fun es c => ds.length + es.length ≤ 16777216 ∧ C.nx (((.own ds) :: r).set 0 (.own (ds ++ es))) c) (fun e b => C.ex e ((.own ds) :: r) b)) := by simp only [Eo.af_eq, Ro.af_eq, So.af_eq]; exact ((So.aft_of ..).trans (congrArg (fun f => Eo.aft _ f _) (funext fun es => funext fun c => by by_cases h : ds.length + es.length ≤ 16777216 <;> simp only [h, if_true, if_false, true_and, false_and] <;> rfl)))
theorem qleak_0 (ds : List D) (m : MS) (r : Rho) (c : Be) (C : Co) : ((mLeak 0 m ((.own ds) :: r) c).af C) = ((m (((.own ds) :: r).set 0 (.val (.lst ds))) c).af C) := by simp only [Eo.af_eq, Ro.af_eq, So.af_eq]; exact (propext ⟨fun h => h, fun h => h⟩)
theorem qwv_1 (s0 : Sl) (d : D) (r : Rho) (c : Be) (P : D → Be → Prop) (E : D → Be → Prop) : ((mVw 1 (s0 :: (.val d) :: r) c).af P E) = (P d c) := by simp only [Eo.af_eq, Ro.af_eq, So.af_eq]; exact (propext ⟨fun h => h, fun h => h⟩)
theorem qwo_1 (s0 : Sl) (ds : List D) (r : Rho) (c : Be) (P : D → Be → Prop) (E : D → Be → Prop) : ((mVw 1 (s0 :: (.own ds) :: r) c).af P E) = (P (.lst ds) c) := by simp only [Eo.af_eq, Ro.af_eq, So.af_eq]; exact (propext ⟨fun h => h, fun h => h⟩)
theorem qx_1 (s0 : Sl) (d : D) (r : Rho) (c : Be) (P : D → Be → Prop) (E : D → Be → Prop) : ((mVar 1 (s0 :: (.val d) :: r) c).af P E) = (P d c) := by simp only [Eo.af_eq, Ro.af_eq, So.af_eq]; exact (propext ⟨fun h => h, fun h => h⟩)
theorem qapp_1 (s0 : Sl) (ds : List D) (m : ME) (r : Rho) (c : Be) (C : Co) : ((mApp 1 m (s0 :: (.own ds) :: r) c).af C) = ((m (s0 :: (.own ds) :: r) c).af (fun d c => ds.length + 1 ≤ 16777216 ∧ C.nx ((s0 :: (.own ds) :: r).set 1 (.own (ds ++ [d]))) c) (fun e b => C.ex e (s0 :: (.own ds) :: r) b)) := by simp only [Eo.af_eq, Ro.af_eq, So.af_eq]; exact ((So.aft_of ..).trans (congrArg (fun f => Eo.aft _ f _) (funext fun d => funext fun c => by by_cases h : ds.length + 1 ≤ 16777216 <;> simp only [h, if_true, if_false, true_and, false_and] <;> rfl)))
theorem qext_1 (s0 : Sl) (ds : List D) (m : MA) (r : Rho) (c : Be) (C : Co) : ((mExt 1 m (s0 :: (.own ds) :: r) c).af C) = ((m (s0 :: (.own ds) :: r) c).af (fun es c => ds.length + es.length ≤ 16777216 ∧ C.nx ((s0 :: (.own ds) :: r).set 1 (.own (ds ++ es))) c) (fun e b => C.ex e (s0 :: (.own ds) :: r) b)) := by simp only [Eo.af_eq, Ro.af_eq, So.af_eq]; exact ((So.aft_of ..).trans (congrArg (fun f => Eo.aft _ f _) (funext fun es => funext fun c => by by_cases h : ds.length + es.length ≤ 16777216 <;> simp only [h, if_true, if_false, true_and, false_and] <;> rfl)))
theorem qleak_1 (s0 : Sl) (ds : List D) (m : MS) (r : Rho) (c : Be) (C : Co) : ((mLeak 1 m (s0 :: (.own ds) :: r) c).af C) = ((m ((s0 :: (.own ds) :: r).set 1 (.val (.lst ds))) c).af C) := by simp only [Eo.af_eq, Ro.af_eq, So.af_eq]; exact (propext ⟨fun h => h, fun h => h⟩)
theorem qwv_2 (s0 s1 : Sl) (d : D) (r : Rho) (c : Be) (P : D → Be → Prop) (E : D → Be → Prop) : ((mVw 2 (s0 :: s1 :: (.val d) :: r) c).af P E) = (P d c) := by simp only [Eo.af_eq, Ro.af_eq, So.af_eq]; exact (propext ⟨fun h => h, fun h => h⟩)
theorem qwo_2 (s0 s1 : Sl) (ds : List D) (r : Rho) (c : Be) (P : D → Be → Prop) (E : D → Be → Prop) : ((mVw 2 (s0 :: s1 :: (.own ds) :: r) c).af P E) = (P (.lst ds) c) := by simp only [Eo.af_eq, Ro.af_eq, So.af_eq]; exact (propext ⟨fun h => h, fun h => h⟩)
theorem qx_2 (s0 s1 : Sl) (d : D) (r : Rho) (c : Be) (P : D → Be → Prop) (E : D → Be → Prop) : ((mVar 2 (s0 :: s1 :: (.val d) :: r) c).af P E) = (P d c) := by simp only [Eo.af_eq, Ro.af_eq, So.af_eq]; exact (propext ⟨fun h => h, fun h => h⟩)
theorem qapp_2 (s0 s1 : Sl) (ds : List D) (m : ME) (r : Rho) (c : Be) (C : Co) : ((mApp 2 m (s0 :: s1 :: (.own ds) :: r) c).af C) = ((m (s0 :: s1 :: (.own ds) :: r) c).af (fun d c => ds.length + 1 ≤ 16777216 ∧ C.nx ((s0 :: s1 :: (.own ds) :: r).set 2 (.own (ds ++ [d]))) c) (fun e b => C.ex e (s0 :: s1 :: (.own ds) :: r) b)) := by simp only [Eo.af_eq, Ro.af_eq, So.af_eq]; exact ((So.aft_of ..).trans (congrArg (fun f => Eo.aft _ f _) (funext fun d => funext fun c => by by_cases h : ds.length + 1 ≤ 16777216 <;> simp only [h, if_true, if_false, true_and, false_and] <;> rfl)))
theorem qext_2 (s0 s1 : Sl) (ds : List D) (m : MA) (r : Rho) (c : Be) (C : Co) : ((mExt 2 m (s0 :: s1 :: (.own ds) :: r) c).af C) = ((m (s0 :: s1 :: (.own ds) :: r) c).af (fun es c => ds.length + es.length ≤ 16777216 ∧ C.nx ((s0 :: s1 :: (.own ds) :: r).set 2 (.own (ds ++ es))) c) (fun e b => C.ex e (s0 :: s1 :: (.own ds) :: r) b)) := by simp only [Eo.af_eq, Ro.af_eq, So.af_eq]; exact ((So.aft_of ..).trans (congrArg (fun f => Eo.aft _ f _) (funext fun es => funext fun c => by by_cases h : ds.length + es.length ≤ 16777216 <;> simp only [h, if_true, if_false, true_and, false_and] <;> rfl)))
theorem qleak_2 (s0 s1 : Sl) (ds : List D) (m : MS) (r : Rho) (c : Be) (C : Co) : ((mLeak 2 m (s0 :: s1 :: (.own ds) :: r) c).af C) = ((m ((s0 :: s1 :: (.own ds) :: r).set 2 (.val (.lst ds))) c).af C) := by simp only [Eo.af_eq, Ro.af_eq, So.af_eq]; exact (propext ⟨fun h => h, fun h => h⟩)
theorem qwv_3 (s0 s1 s2 : Sl) (d : D) (r : Rho) (c : Be) (P : D → Be → Prop) (E : D → Be → Prop) : ((mVw 3 (s0 :: s1 :: s2 :: (.val d) :: r) c).af P E) = (P d c) := by simp only [Eo.af_eq, Ro.af_eq, So.af_eq]; exact (propext ⟨fun h => h, fun h => h⟩)
theorem qwo_3 (s0 s1 s2 : Sl) (ds : List D) (r : Rho) (c : Be) (P : D → Be → Prop) (E : D → Be → Prop) : ((mVw 3 (s0 :: s1 :: s2 :: (.own ds) :: r) c).af P E) = (P (.lst ds) c) := by simp only [Eo.af_eq, Ro.af_eq, So.af_eq]; exact (propext ⟨fun h => h, fun h => h⟩)
theorem qx_3 (s0 s1 s2 : Sl) (d : D) (r : Rho) (c : Be) (P : D → Be → Prop) (E : D → Be → Prop) : ((mVar 3 (s0 :: s1 :: s2 :: (.val d) :: r) c).af P E) = (P d c) := by simp only [Eo.af_eq, Ro.af_eq, So.af_eq]; exact (propext ⟨fun h => h, fun h => h⟩)
theorem qapp_3 (s0 s1 s2 : Sl) (ds : List D) (m : ME) (r : Rho) (c : Be) (C : Co) : ((mApp 3 m (s0 :: s1 :: s2 :: (.own ds) :: r) c).af C) = ((m (s0 :: s1 :: s2 :: (.own ds) :: r) c).af (fun d c => ds.length + 1 ≤ 16777216 ∧ C.nx ((s0 :: s1 :: s2 :: (.own ds) :: r).set 3 (.own (ds ++ [d]))) c) (fun e b => C.ex e (s0 :: s1 :: s2 :: (.own ds) :: r) b)) := by simp only [Eo.af_eq, Ro.af_eq, So.af_eq]; exact ((So.aft_of ..).trans (congrArg (fun f => Eo.aft _ f _) (funext fun d => funext fun c => by by_cases h : ds.length + 1 ≤ 16777216 <;> simp only [h, if_true, if_false, true_and, false_and] <;> rfl)))
theorem qext_3 (s0 s1 s2 : Sl) (ds : List D) (m : MA) (r : Rho) (c : Be) (C : Co) : ((mExt 3 m (s0 :: s1 :: s2 :: (.own ds) :: r) c).af C) = ((m (s0 :: s1 :: s2 :: (.own ds) :: r) c).af (fun es c => ds.length + es.length ≤ 16777216 ∧ C.nx ((s0 :: s1 :: s2 :: (.own ds) :: r).set 3 (.own (ds ++ es))) c) (fun e b => C.ex e (s0 :: s1 :: s2 :: (.own ds) :: r) b)) := by simp only [Eo.af_eq, Ro.af_eq, So.af_eq]; exact ((So.aft_of ..).trans (congrArg (fun f => Eo.aft _ f _) (funext fun es => funext fun c => by by_cases h : ds.length + es.length ≤ 16777216 <;> simp only [h, if_true, if_false, true_and, false_and] <;> rfl)))
theorem qleak_3 (s0 s1 s2 : Sl) (ds : List D) (m : MS) (r : Rho) (c : Be) (C : Co) : ((mLeak 3 m (s0 :: s1 :: s2 :: (.own ds) :: r) c).af C) = ((m ((s0 :: s1 :: s2 :: (.own ds) :: r).set 3 (.val (.lst ds))) c).af C) := by simp only [Eo.af_eq, Ro.af_eq, So.af_eq]; exact (propext ⟨fun h => h, fun h => h⟩)
theorem qwv_4 (s0 s1 s2 s3 : Sl) (d : D) (r : Rho) (c : Be) (P : D → Be → Prop) (E : D → Be → Prop) : ((mVw 4 (s0 :: s1 :: s2 :: s3 :: (.val d) :: r) c).af P E) = (P d c) := by simp only [Eo.af_eq, Ro.af_eq, So.af_eq]; exact (propext ⟨fun h => h, fun h => h⟩)
theorem qwo_4 (s0 s1 s2 s3 : Sl) (ds : List D) (r : Rho) (c : Be) (P : D → Be → Prop) (E : D → Be → Prop) : ((mVw 4 (s0 :: s1 :: s2 :: s3 :: (.own ds) :: r) c).af P E) = (P (.lst ds) c) := by simp only [Eo.af_eq, Ro.af_eq, So.af_eq]; exact (propext ⟨fun h => h, fun h => h⟩)
theorem qx_4 (s0 s1 s2 s3 : Sl) (d : D) (r : Rho) (c : Be) (P : D → Be → Prop) (E : D → Be → Prop) : ((mVar 4 (s0 :: s1 :: s2 :: s3 :: (.val d) :: r) c).af P E) = (P d c) := by simp only [Eo.af_eq, Ro.af_eq, So.af_eq]; exact (propext ⟨fun h => h, fun h => h⟩)
theorem qapp_4 (s0 s1 s2 s3 : Sl) (ds : List D) (m : ME) (r : Rho) (c : Be) (C : Co) : ((mApp 4 m (s0 :: s1 :: s2 :: s3 :: (.own ds) :: r) c).af C) = ((m (s0 :: s1 :: s2 :: s3 :: (.own ds) :: r) c).af (fun d c => ds.length + 1 ≤ 16777216 ∧ C.nx ((s0 :: s1 :: s2 :: s3 :: (.own ds) :: r).set 4 (.own (ds ++ [d]))) c) (fun e b => C.ex e (s0 :: s1 :: s2 :: s3 :: (.own ds) :: r) b)) := by simp only [Eo.af_eq, Ro.af_eq, So.af_eq]; exact ((So.aft_of ..).trans (congrArg (fun f => Eo.aft _ f _) (funext fun d => funext fun c => by by_cases h : ds.length + 1 ≤ 16777216 <;> simp only [h, if_true, if_false, true_and, false_and] <;> rfl)))
theorem qext_4 (s0 s1 s2 s3 : Sl) (ds : List D) (m : MA) (r : Rho) (c : Be) (C : Co) : ((mExt 4 m (s0 :: s1 :: s2 :: s3 :: (.own ds) :: r) c).af C) = ((m (s0 :: s1 :: s2 :: s3 :: (.own ds) :: r) c).af (fun es c => ds.length + es.length ≤ 16777216 ∧ C.nx ((s0 :: s1 :: s2 :: s3 :: (.own ds) :: r).set 4 (.own (ds ++ es))) c) (fun e b => C.ex e (s0 :: s1 :: s2 :: s3 :: (.own ds) :: r) b)) := by simp only [Eo.af_eq, Ro.af_eq, So.af_eq]; exact ((So.aft_of ..).trans (congrArg (fun f => Eo.aft _ f _) (funext fun es => funext fun c => by by_cases h : ds.length + es.length ≤ 16777216 <;> simp only [h, if_true, if_false, true_and, false_and] <;> rfl)))
theorem qleak_4 (s0 s1 s2 s3 : Sl) (ds : List D) (m : MS) (r : Rho) (c : Be) (C : Co) : ((mLeak 4 m (s0 :: s1 :: s2 :: s3 :: (.own ds) :: r) c).af C) = ((m ((s0 :: s1 :: s2 :: s3 :: (.own ds) :: r).set 4 (.val (.lst ds))) c).af C) := by simp only [Eo.af_eq, Ro.af_eq, So.af_eq]; exact (propext ⟨fun h => h, fun h => h⟩)
theorem qwv_5 (s0 s1 s2 s3 s4 : Sl) (d : D) (r : Rho) (c : Be) (P : D → Be → Prop) (E : D → Be → Prop) : ((mVw 5 (s0 :: s1 :: s2 :: s3 :: s4 :: (.val d) :: r) c).af P E) = (P d c) := by simp only [Eo.af_eq, Ro.af_eq, So.af_eq]; exact (propext ⟨fun h => h, fun h => h⟩)
theorem qwo_5 (s0 s1 s2 s3 s4 : Sl) (ds : List D) (r : Rho) (c : Be) (P : D → Be → Prop) (E : D → Be → Prop) : ((mVw 5 (s0 :: s1 :: s2 :: s3 :: s4 :: (.own ds) :: r) c).af P E) = (P (.lst ds) c) := by simp only [Eo.af_eq, Ro.af_eq, So.af_eq]; exact (propext ⟨fun h => h, fun h => h⟩)
theorem qx_5 (s0 s1 s2 s3 s4 : Sl) (d : D) (r : Rho) (c : Be) (P : D → Be → Prop) (E : D → Be → Prop) : ((mVar 5 (s0 :: s1 :: s2 :: s3 :: s4 :: (.val d) :: r) c).af P E) = (P d c) := by simp only [Eo.af_eq, Ro.af_eq, So.af_eq]; exact (propext ⟨fun h => h, fun h => h⟩)
theorem qapp_5 (s0 s1 s2 s3 s4 : Sl) (ds : List D) (m : ME) (r : Rho) (c : Be) (C : Co) : ((mApp 5 m (s0 :: s1 :: s2 :: s3 :: s4 :: (.own ds) :: r) c).af C) = ((m (s0 :: s1 :: s2 :: s3 :: s4 :: (.own ds) :: r) c).af (fun d c => ds.length + 1 ≤ 16777216 ∧ C.nx ((s0 :: s1 :: s2 :: s3 :: s4 :: (.own ds) :: r).set 5 (.own (ds ++ [d]))) c) (fun e b => C.ex e (s0 :: s1 :: s2 :: s3 :: s4 :: (.own ds) :: r) b)) := by simp only [Eo.af_eq, Ro.af_eq, So.af_eq]; exact ((So.aft_of ..).trans (congrArg (fun f => Eo.aft _ f _) (funext fun d => funext fun c => by by_cases h : ds.length + 1 ≤ 16777216 <;> simp only [h, if_true, if_false, true_and, false_and] <;> rfl)))
theorem qext_5 (s0 s1 s2 s3 s4 : Sl) (ds : List D) (m : MA) (r : Rho) (c : Be) (C : Co) : ((mExt 5 m (s0 :: s1 :: s2 :: s3 :: s4 :: (.own ds) :: r) c).af C) = ((m (s0 :: s1 :: s2 :: s3 :: s4 :: (.own ds) :: r) c).af (fun es c => ds.length + es.length ≤ 16777216 ∧ C.nx ((s0 :: s1 :: s2 :: s3 :: s4 :: (.own ds) :: r).set 5 (.own (ds ++ es))) c) (fun e b => C.ex e (s0 :: s1 :: s2 :: s3 :: s4 :: (.own ds) :: r) b)) := by simp only [Eo.af_eq, Ro.af_eq, So.af_eq]; exact ((So.aft_of ..).trans (congrArg (fun f => Eo.aft _ f _) (funext fun es => funext fun c => by by_cases h : ds.length + es.length ≤ 16777216 <;> simp only [h, if_true, if_false, true_and, false_and] <;> rfl)))
theorem qleak_5 (s0 s1 s2 s3 s4 : Sl) (ds : List D) (m : MS) (r : Rho) (c : Be) (C : Co) : ((mLeak 5 m (s0 :: s1 :: s2 :: s3 :: s4 :: (.own ds) :: r) c).af C) = ((m ((s0 :: s1 :: s2 :: s3 :: s4 :: (.own ds) :: r).set 5 (.val (.lst ds))) c).af C) := by simp only [Eo.af_eq, Ro.af_eq, So.af_eq]; exact (propext ⟨fun h => h, fun h => h⟩)
theorem qwv_6 (s0 s1 s2 s3 s4 s5 : Sl) (d : D) (r : Rho) (c : Be) (P : D → Be → Prop) (E : D → Be → Prop) : ((mVw 6 (s0 :: s1 :: s2 :: s3 :: s4 :: s5 :: (.val d) :: r) c).af P E) = (P d c) := by simp only [Eo.af_eq, Ro.af_eq, So.af_eq]; exact (propext ⟨fun h => h, fun h => h⟩)
theorem qwo_6 (s0 s1 s2 s3 s4 s5 : Sl) (ds : List D) (r : Rho) (c : Be) (P : D → Be → Prop) (E : D → Be → Prop) : ((mVw 6 (s0 :: s1 :: s2 :: s3 :: s4 :: s5 :: (.own ds) :: r) c).af P E) = (P (.lst ds) c) := by simp only [Eo.af_eq, Ro.af_eq, So.af_eq]; exact (propext ⟨fun h => h, fun h => h⟩)
theorem qx_6 (s0 s1 s2 s3 s4 s5 : Sl) (d : D) (r : Rho) (c : Be) (P : D → Be → Prop) (E : D → Be → Prop) : ((mVar 6 (s0 :: s1 :: s2 :: s3 :: s4 :: s5 :: (.val d) :: r) c).af P E) = (P d c) := by simp only [Eo.af_eq, Ro.af_eq, So.af_eq]; exact (propext ⟨fun h => h, fun h => h⟩)
theorem qapp_6 (s0 s1 s2 s3 s4 s5 : Sl) (ds : List D) (m : ME) (r : Rho) (c : Be) (C : Co) : ((mApp 6 m (s0 :: s1 :: s2 :: s3 :: s4 :: s5 :: (.own ds) :: r) c).af C) = ((m (s0 :: s1 :: s2 :: s3 :: s4 :: s5 :: (.own ds) :: r) c).af (fun d c => ds.length + 1 ≤ 16777216 ∧ C.nx ((s0 :: s1 :: s2 :: s3 :: s4 :: s5 :: (.own ds) :: r).set 6 (.own (ds ++ [d]))) c) (fun e b => C.ex e (s0 :: s1 :: s2 :: s3 :: s4 :: s5 :: (.own ds) :: r) b)) := by simp only [Eo.af_eq, Ro.af_eq, So.af_eq]; exact ((So.aft_of ..).trans (congrArg (fun f => Eo.aft _ f _) (funext fun d => funext fun c => by by_cases h : ds.length + 1 ≤ 16777216 <;> simp only [h, if_true, if_false, true_and, false_and] <;> rfl)))
theorem qext_6 (s0 s1 s2 s3 s4 s5 : Sl) (ds : List D) (m : MA) (r : Rho) (c : Be) (C : Co) : ((mExt 6 m (s0 :: s1 :: s2 :: s3 :: s4 :: s5 :: (.own ds) :: r) c).af C) = ((m (s0 :: s1 :: s2 :: s3 :: s4 :: s5 :: (.own ds) :: r) c).af (fun es c => ds.length + es.length ≤ 16777216 ∧ C.nx ((s0 :: s1 :: s2 :: s3 :: s4 :: s5 :: (.own ds) :: r).set 6 (.own (ds ++ es))) c) (fun e b => C.ex e (s0 :: s1 :: s2 :: s3 :: s4 :: s5 :: (.own ds) :: r) b)) := by simp only [Eo.af_eq, Ro.af_eq, So.af_eq]; exact ((So.aft_of ..).trans (congrArg (fun f => Eo.aft _ f _) (funext fun es => funext fun c => by by_cases h : ds.length + es.length ≤ 16777216 <;> simp only [h, if_true, if_false, true_and, false_and] <;> rfl)))
theorem qleak_6 (s0 s1 s2 s3 s4 s5 : Sl) (ds : List D) (m : MS) (r : Rho) (c : Be) (C : Co) : ((mLeak 6 m (s0 :: s1 :: s2 :: s3 :: s4 :: s5 :: (.own ds) :: r) c).af C) = ((m ((s0 :: s1 :: s2 :: s3 :: s4 :: s5 :: (.own ds) :: r).set 6 (.val (.lst ds))) c).af C) := by simp only [Eo.af_eq, Ro.af_eq, So.af_eq]; exact (propext ⟨fun h => h, fun h => h⟩)
theorem qwv_7 (s0 s1 s2 s3 s4 s5 s6 : Sl) (d : D) (r : Rho) (c : Be) (P : D → Be → Prop) (E : D → Be → Prop) : ((mVw 7 (s0 :: s1 :: s2 :: s3 :: s4 :: s5 :: s6 :: (.val d) :: r) c).af P E) = (P d c) := by simp only [Eo.af_eq, Ro.af_eq, So.af_eq]; exact (propext ⟨fun h => h, fun h => h⟩)
theorem qwo_7 (s0 s1 s2 s3 s4 s5 s6 : Sl) (ds : List D) (r : Rho) (c : Be) (P : D → Be → Prop) (E : D → Be → Prop) : ((mVw 7 (s0 :: s1 :: s2 :: s3 :: s4 :: s5 :: s6 :: (.own ds) :: r) c).af P E) = (P (.lst ds) c) := by simp only [Eo.af_eq, Ro.af_eq, So.af_eq]; exact (propext ⟨fun h => h, fun h => h⟩)
theorem qx_7 (s0 s1 s2 s3 s4 s5 s6 : Sl) (d : D) (r : Rho) (c : Be) (P : D → Be → Prop) (E : D → Be → Prop) : ((mVar 7 (s0 :: s1 :: s2 :: s3 :: s4 :: s5 :: s6 :: (.val d) :: r) c).af P E) = (P d c) := by simp only [Eo.af_eq, Ro.af_eq, So.af_eq]; exact (propext ⟨fun h => h, fun h => h⟩)
theorem qapp_7 (s0 s1 s2 s3 s4 s5 s6 : Sl) (ds : List D) (m : ME) (r : Rho) (c : Be) (C : Co) : ((mApp 7 m (s0 :: s1 :: s2 :: s3 :: s4 :: s5 :: s6 :: (.own ds) :: r) c).af C) = ((m (s0 :: s1 :: s2 :: s3 :: s4 :: s5 :: s6 :: (.own ds) :: r) c).af (fun d c => ds.length + 1 ≤ 16777216 ∧ C.nx ((s0 :: s1 :: s2 :: s3 :: s4 :: s5 :: s6 :: (.own ds) :: r).set 7 (.own (ds ++ [d]))) c) (fun e b => C.ex e (s0 :: s1 :: s2 :: s3 :: s4 :: s5 :: s6 :: (.own ds) :: r) b)) := by simp only [Eo.af_eq, Ro.af_eq, So.af_eq]; exact ((So.aft_of ..).trans (congrArg (fun f => Eo.aft _ f _) (funext fun d => funext fun c => by by_cases h : ds.length + 1 ≤ 16777216 <;> simp only [h, if_true, if_false, true_and, false_and] <;> rfl)))
theorem qext_7 (s0 s1 s2 s3 s4 s5 s6 : Sl) (ds : List D) (m : MA) (r : Rho) (c : Be) (C : Co) : ((mExt 7 m (s0 :: s1 :: s2 :: s3 :: s4 :: s5 :: s6 :: (.own ds) :: r) c).af C) = ((m (s0 :: s1 :: s2 :: s3 :: s4 :: s5 :: s6 :: (.own ds) :: r) c).af (fun es c => ds.length + es.length ≤ 16777216 ∧ C.nx ((s0 :: s1 :: s2 :: s3 :: s4 :: s5 :: s6 :: (.own ds) :: r).set 7 (.own (ds ++ es))) c) (fun e b => C.ex e (s0 :: s1 :: s2 :: s3 :: s4 :: s5 :: s6 :: (.own ds) :: r) b)) := by simp only [Eo.af_eq, Ro.af_eq, So.af_eq]; exact ((So.aft_of ..).trans (congrArg (fun f => Eo.aft _ f _) (funext fun es => funext fun c => by by_cases h : ds.length + es.length ≤ 16777216 <;> simp only [h, if_true, if_false, true_and, false_and] <;> rfl)))
theorem qleak_7 (s0 s1 s2 s3 s4 s5 s6 : Sl) (ds : List D) (m : MS) (r : Rho) (c : Be) (C : Co) : ((mLeak 7 m (s0 :: s1 :: s2 :: s3 :: s4 :: s5 :: s6 :: (.own ds) :: r) c).af C) = ((m ((s0 :: s1 :: s2 :: s3 :: s4 :: s5 :: s6 :: (.own ds) :: r).set 7 (.val (.lst ds))) c).af C) := by simp only [Eo.af_eq, Ro.af_eq, So.af_eq]; exact (propext ⟨fun h => h, fun h => h⟩)
theorem qwv_8 (s0 s1 s2 s3 s4 s5 s6 s7 : Sl) (d : D) (r : Rho) (c : Be) (P : D → Be → Prop) (E : D → Be → Prop) : ((mVw 8 (s0 :: s1 :: s2 :: s3 :: s4 :: s5 :: s6 :: s7 :: (.val d) :: r) c).af P E) = (P d c) := by simp only [Eo.af_eq, Ro.af_eq, So.af_eq]; exact (propext ⟨fun h => h, fun h => h⟩)
theorem qwo_8 (s0 s1 s2 s3 s4 s5 s6 s7 : Sl) (ds : List D) (r : Rho) (c : Be) (P : D → Be → Prop) (E : D → Be → Prop) : ((mVw 8 (s0 :: s1 :: s2 :: s3 :: s4 :: s5 :: s6 :: s7 :: (.own ds) :: r) c).af P E) = (P (.lst ds) c) := by simp only [Eo.af_eq, Ro.af_eq, So.af_eq]; exact (propext ⟨fun h => h, fun h => h⟩)
theorem qx_8 (s0 s1 s2 s3 s4 s5 s6 s7 : Sl) (d : D) (r : Rho) (c : Be) (P : D → Be → Prop) (E : D → Be → Prop) : ((mVar 8 (s0 :: s1 :: s2 :: s3 :: s4 :: s5 :: s6 :: s7 :: (.val d) :: r) c).af P E) = (P d c) := by simp only [Eo.af_eq, Ro.af_eq, So.af_eq]; exact (propext ⟨fun h => h, fun h => h⟩)
theorem qapp_8 (s0 s1 s2 s3 s4 s5 s6 s7 : Sl) (ds : List D) (m : ME) (r : Rho) (c : Be) (C : Co) : ((mApp 8 m (s0 :: s1 :: s2 :: s3 :: s4 :: s5 :: s6 :: s7 :: (.own ds) :: r) c).af C) = ((m (s0 :: s1 :: s2 :: s3 :: s4 :: s5 :: s6 :: s7 :: (.own ds) :: r) c).af (fun d c => ds.length + 1 ≤ 16777216 ∧ C.nx ((s0 :: s1 :: s2 :: s3 :: s4 :: s5 :: s6 :: s7 :: (.own ds) :: r).set 8 (.own (ds ++ [d]))) c) (fun e b => C.ex e (s0 :: s1 :: s2 :: s3 :: s4 :: s5 :: s6 :: s7 :: (.own ds) :: r) b)) := by simp only [Eo.af_eq, Ro.af_eq, So.af_eq]; exact ((So.aft_of ..).trans (congrArg (fun f => Eo.aft _ f _) (funext fun d => funext fun c => by by_cases h : ds.length + 1 ≤ 16777216 <;> simp only [h, if_true, if_false, true_and, false_and] <;> rfl)))
theorem qext_8 (s0 s1 s2 s3 s4 s5 s6 s7 : Sl) (ds : List D) (m : MA) (r : Rho) (c : Be) (C : Co) : ((mExt 8 m (s0 :: s1 :: s2 :: s3 :: s4 :: s5 :: s6 :: s7 :: (.own ds) :: r) c).af C) = ((m (s0 :: s1 :: s2 :: s3 :: s4 :: s5 :: s6 :: s7 :: (.own ds) :: r) c).af (fun es c => ds.length + es.length ≤ 16777216 ∧ C.nx ((s0 :: s1 :: s2 :: s3 :: s4 :: s5 :: s6 :: s7 :: (.own ds) :: r).set 8 (.own (ds ++ es))) c) (fun e b => C.ex e (s0 :: s1 :: s2 :: s3 :: s4 :: s5 :: s6 :: s7 :: (.own ds) :: r) b)) := by simp only [Eo.af_eq, Ro.af_eq, So.af_eq]; exact ((So.aft_of ..).trans (congrArg (fun f => Eo.aft _ f _) (funext fun es => funext fun c => by by_cases h : ds.length + es.length ≤ 16777216 <;> simp only [h, if_true, if_false, true_and, false_and] <;> rfl)))
theorem qleak_8 (s0 s1 s2 s3 s4 s5 s6 s7 : Sl) (ds : List D) (m : MS) (r : Rho) (c : Be) (C : Co) : ((mLeak 8 m (s0 :: s1 :: s2 :: s3 :: s4 :: s5 :: s6 :: s7 :: (.own ds) :: r) c).af C) = ((m ((s0 :: s1 :: s2 :: s3 :: s4 :: s5 :: s6 :: s7 :: (.own ds) :: r).set 8 (.val (.lst ds))) c).af C) := by simp only [Eo.af_eq, Ro.af_eq, So.af_eq]; exact (propext ⟨fun h => h, fun h => h⟩)
theorem qwv_9 (s0 s1 s2 s3 s4 s5 s6 s7 s8 : Sl) (d : D) (r : Rho) (c : Be) (P : D → Be → Prop) (E : D → Be → Prop) : ((mVw 9 (s0 :: s1 :: s2 :: s3 :: s4 :: s5 :: s6 :: s7 :: s8 :: (.val d) :: r) c).af P E) = (P d c) := by simp only [Eo.af_eq, Ro.af_eq, So.af_eq]; exact (propext ⟨fun h => h, fun h => h⟩)
theorem qwo_9 (s0 s1 s2 s3 s4 s5 s6 s7 s8 : Sl) (ds : List D) (r : Rho) (c : Be) (P : D → Be → Prop) (E : D → Be → Prop) : ((mVw 9 (s0 :: s1 :: s2 :: s3 :: s4 :: s5 :: s6 :: s7 :: s8 :: (.own ds) :: r) c).af P E) = (P (.lst ds) c) := by simp only [Eo.af_eq, Ro.af_eq, So.af_eq]; exact (propext ⟨fun h => h, fun h => h⟩)
theorem qx_9 (s0 s1 s2 s3 s4 s5 s6 s7 s8 : Sl) (d : D) (r : Rho) (c : Be) (P : D → Be → Prop) (E : D → Be → Prop) : ((mVar 9 (s0 :: s1 :: s2 :: s3 :: s4 :: s5 :: s6 :: s7 :: s8 :: (.val d) :: r) c).af P E) = (P d c) := by simp only [Eo.af_eq, Ro.af_eq, So.af_eq]; exact (propext ⟨fun h => h, fun h => h⟩)
theorem qapp_9 (s0 s1 s2 s3 s4 s5 s6 s7 s8 : Sl) (ds : List D) (m : ME) (r : Rho) (c : Be) (C : Co) : ((mApp 9 m (s0 :: s1 :: s2 :: s3 :: s4 :: s5 :: s6 :: s7 :: s8 :: (.own ds) :: r) c).af C) = ((m (s0 :: s1 :: s2 :: s3 :: s4 :: s5 :: s6 :: s7 :: s8 :: (.own ds) :: r) c).af (fun d c => ds.length + 1 ≤ 16777216 ∧ C.nx ((s0 :: s1 :: s2 :: s3 :: s4 :: s5 :: s6 :: s7 :: s8 :: (.own ds) :: r).set 9 (.own (ds ++ [d]))) c) (fun e b => C.ex e (s0 :: s1 :: s2 :: s3 :: s4 :: s5 :: s6 :: s7 :: s8 :: (.own ds) :: r) b)) := by simp only [Eo.af_eq, Ro.af_eq, So.af_eq]; exact ((So.aft_of ..).trans (congrArg (fun f => Eo.aft _ f _) (funext fun d => funext fun c => by by_cases h : ds.length + 1 ≤ 16777216 <;> simp only [h, if_true, if_false, true_and, false_and] <;> rfl)))
theorem qext_9 (s0 s1 s2 s3 s4 s5 s6 s7 s8 : Sl) (ds : List D) (m : MA) (r : Rho) (c : Be) (C : Co) : ((mExt 9 m (s0 :: s1 :: s2 :: s3 :: s4 :: s5 :: s6 :: s7 :: s8 :: (.own ds) :: r) c).af C) = ((m (s0 :: s1 :: s2 :: s3 :: s4 :: s5 :: s6 :: s7 :: s8 :: (.own ds) :: r) c).af (fun es c => ds.length + es.length ≤ 16777216 ∧ C.nx ((s0 :: s1 :: s2 :: s3 :: s4 :: s5 :: s6 :: s7 :: s8 :: (.own ds) :: r).set 9 (.own (ds ++ es))) c) (fun e b => C.ex e (s0 :: s1 :: s2 :: s3 :: s4 :: s5 :: s6 :: s7 :: s8 :: (.own ds) :: r) b)) := by simp only [Eo.af_eq, Ro.af_eq, So.af_eq]; exact ((So.aft_of ..).trans (congrArg (fun f => Eo.aft _ f _) (funext fun es => funext fun c => by by_cases h : ds.length + es.length ≤ 16777216 <;> simp only [h, if_true, if_false, true_and, false_and] <;> rfl)))
theorem qleak_9 (s0 s1 s2 s3 s4 s5 s6 s7 s8 : Sl) (ds : List D) (m : MS) (r : Rho) (c : Be) (C : Co) : ((mLeak 9 m (s0 :: s1 :: s2 :: s3 :: s4 :: s5 :: s6 :: s7 :: s8 :: (.own ds) :: r) c).af C) = ((m ((s0 :: s1 :: s2 :: s3 :: s4 :: s5 :: s6 :: s7 :: s8 :: (.own ds) :: r).set 9 (.val (.lst ds))) c).af C) := by simp only [Eo.af_eq, Ro.af_eq, So.af_eq]; exact (propext ⟨fun h => h, fun h => h⟩)
theorem qwv_10 (s0 s1 s2 s3 s4 s5 s6 s7 s8 s9 : Sl) (d : D) (r : Rho) (c : Be) (P : D → Be → Prop) (E : D → Be → Prop) : ((mVw 10 (s0 :: s1 :: s2 :: s3 :: s4 :: s5 :: s6 :: s7 :: s8 :: s9 :: (.val d) :: r) c).af P E) = (P d c) := by simp only [Eo.af_eq, Ro.af_eq, So.af_eq]; exact (propext ⟨fun h => h, fun h => h⟩)
theorem qwo_10 (s0 s1 s2 s3 s4 s5 s6 s7 s8 s9 : Sl) (ds : List D) (r : Rho) (c : Be) (P : D → Be → Prop) (E : D → Be → Prop) : ((mVw 10 (s0 :: s1 :: s2 :: s3 :: s4 :: s5 :: s6 :: s7 :: s8 :: s9 :: (.own ds) :: r) c).af P E) = (P (.lst ds) c) := by simp only [Eo.af_eq, Ro.af_eq, So.af_eq]; exact (propext ⟨fun h => h, fun h => h⟩)
theorem qx_10 (s0 s1 s2 s3 s4 s5 s6 s7 s8 s9 : Sl) (d : D) (r : Rho) (c : Be) (P : D → Be → Prop) (E : D → Be → Prop) : ((mVar 10 (s0 :: s1 :: s2 :: s3 :: s4 :: s5 :: s6 :: s7 :: s8 :: s9 :: (.val d) :: r) c).af P E) = (P d c) := by simp only [Eo.af_eq, Ro.af_eq, So.af_eq]; exact (propext ⟨fun h => h, fun h => h⟩)
theorem qapp_10 (s0 s1 s2 s3 s4 s5 s6 s7 s8 s9 : Sl) (ds : List D) (m : ME) (r : Rho) (c : Be) (C : Co) : ((mApp 10 m (s0 :: s1 :: s2 :: s3 :: s4 :: s5 :: s6 :: s7 :: s8 :: s9 :: (.own ds) :: r) c).af C) = ((m (s0 :: s1 :: s2 :: s3 :: s4 :: s5 :: s6 :: s7 :: s8 :: s9 :: (.own ds) :: r) c).af (fun d c => ds.length + 1 ≤ 16777216 ∧ C.nx ((s0 :: s1 :: s2 :: s3 :: s4 :: s5 :: s6 :: s7 :: s8 :: s9 :: (.own ds) :: r).set 10 (.own (ds ++ [d]))) c) (fun e b => C.ex e (s0 :: s1 :: s2 :: s3 :: s4 :: s5 :: s6 :: s7 :: s8 :: s9 :: (.own ds) :: r) b)) := by simp only [Eo.af_eq, Ro.af_eq, So.af_eq]; exact ((So.aft_of ..).trans (congrArg (fun f => Eo.aft _ f _) (funext fun d => funext fun c => by by_cases h : ds.length + 1 ≤ 16777216 <;> simp only [h, if_true, if_false, true_and, false_and] <;> rfl)))
theorem qext_10 (s0 s1 s2 s3 s4 s5 s6 s7 s8 s9 : Sl) (ds : List D) (m : MA) (r : Rho) (c : Be) (C : Co) : ((mExt 10 m (s0 :: s1 :: s2 :: s3 :: s4 :: s5 :: s6 :: s7 :: s8 :: s9 :: (.own ds) :: r) c).af C) = ((m (s0 :: s1 :: s2 :: s3 :: s4 :: s5 :: s6 :: s7 :: s8 :: s9 :: (.own ds) :: r) c).af (fun es c => ds.length + es.length ≤ 16777216 ∧ C.nx ((s0 :: s1 :: s2 :: s3 :: s4 :: s5 :: s6 :: s7 :: s8 :: s9 :: (.own ds) :: r).set 10 (.own (ds ++ es))) c) (fun e b => C.ex e (s0 :: s1 :: s2 :: s3 :: s4 :: s5 :: s6 :: s7 :: s8 :: s9 :: (.own ds) :: r) b)) := by simp only [Eo.af_eq, Ro.af_eq, So.af_eq]; exact ((So.aft_of ..).trans (congrArg (fun f => Eo.aft _ f _) (funext fun es => funext fun c => by by_cases h : ds.length + es.length ≤ 16777216 <;> simp only [h, if_true, if_false, true_and, false_and] <;> rfl)))
theorem qleak_10 (s0 s1 s2 s3 s4 s5 s6 s7 s8 s9 : Sl) (ds : List D) (m : MS) (r : Rho) (c : Be) (C : Co) : ((mLeak 10 m (s0 :: s1 :: s2 :: s3 :: s4 :: s5 :: s6 :: s7 :: s8 :: s9 :: (.own ds) :: r) c).af C) = ((m ((s0 :: s1 :: s2 :: s3 :: s4 :: s5 :: s6 :: s7 :: s8 :: s9 :: (.own ds) :: r).set 10 (.val (.lst ds))) c).af C) := by simp only [Eo.af_eq, Ro.af_eq, So.af_eq]; exact (propext ⟨fun h => h, fun h => h⟩)
theorem qwv_11 (s0 s1 s2 s3 s4 s5 s6 s7 s8 s9 s10 : Sl) (d : D) (r : Rho) (c : Be) (P : D → Be → Prop) (E : D → Be → Prop) : ((mVw 11 (s0 :: s1 :: s2 :: s3 :: s4 :: s5 :: s6 :: s7 :: s8 :: s9 :: s10 :: (.val d) :: r) c).af P E) = (P d c) := by simp only [Eo.af_eq, Ro.af_eq, So.af_eq]; exact (propext ⟨fun h => h, fun h => h⟩)
theorem qwo_11 (s0 s1 s2 s3 s4 s5 s6 s7 s8 s9 s10 : Sl) (ds : List D) (r : Rho) (c : Be) (P : D → Be → Prop) (E : D → Be → Prop) : ((mVw 11 (s0 :: s1 :: s2 :: s3 :: s4 :: s5 :: s6 :: s7 :: s8 :: s9 :: s10 :: (.own ds) :: r) c).af P E) = (P (.lst ds) c) := by simp only [Eo.af_eq, Ro.af_eq, So.af_eq]; exact (propext ⟨fun h => h, fun h => h⟩)
theorem qx_11 (s0 s1 s2 s3 s4 s5 s6 s7 s8 s9 s10 : Sl) (d : D) (r : Rho) (c : Be) (P : D → Be → Prop) (E : D → Be → Prop) : ((mVar 11 (s0 :: s1 :: s2 :: s3 :: s4 :: s5 :: s6 :: s7 :: s8 :: s9 :: s10 :: (.val d) :: r) c).af P E) = (P d c) := by simp only [Eo.af_eq, Ro.af_eq, So.af_eq]; exact (propext ⟨fun h => h, fun h => h⟩)
theorem qapp_11 (s0 s1 s2 s3 s4 s5 s6 s7 s8 s9 s10 : Sl) (ds : List D) (m : ME) (r : Rho) (c : Be) (C : Co) : ((mApp 11 m (s0 :: s1 :: s2 :: s3 :: s4 :: s5 :: s6 :: s7 :: s8 :: s9 :: s10 :: (.own ds) :: r) c).af C) = ((m (s0 :: s1 :: s2 :: s3 :: s4 :: s5 :: s6 :: s7 :: s8 :: s9 :: s10 :: (.own ds) :: r) c).af (fun d c => ds.length + 1 ≤ 16777216 ∧ C.nx ((s0 :: s1 :: s2 :: s3 :: s4 :: s5 :: s6 :: s7 :: s8 :: s9 :: s10 :: (.own ds) :: r).set 11 (.own (ds ++ [d]))) c) (fun e b => C.ex e (s0 :: s1 :: s2 :: s3 :: s4 :: s5 :: s6 :: s7 :: s8 :: s9 :: s10 :: (.own ds) :: r) b)) := by simp only [Eo.af_eq, Ro.af_eq, So.af_eq]; exact ((So.aft_of ..).trans (congrArg (fun f => Eo.aft _ f _) (funext fun d => funext fun c => by by_cases h : ds.length + 1 ≤ 16777216 <;> simp only [h, if_true, if_false, true_and, false_and] <;> rfl)))
theorem qext_11 (s0 s1 s2 s3 s4 s5 s6 s7 s8 s9 s10 : Sl) (ds : List D) (m : MA) (r : Rho) (c : Be) (C : Co) : ((mExt 11 m (s0 :: s1 :: s2 :: s3 :: s4 :: s5 :: s6 :: s7 :: s8 :: s9 :: s10 :: (.own ds) :: r) c).af C) = ((m (s0 :: s1 :: s2 :: s3 :: s4 :: s5 :: s6 :: s7 :: s8 :: s9 :: s10 :: (.own ds) :: r) c).af (fun es c => ds.length + es.length ≤ 16777216 ∧ C.nx ((s0 :: s1 :: s2 :: s3 :: s4 :: s5 :: s6 :: s7 :: s8 :: s9 :: s10 :: (.own ds) :: r).set 11 (.own (ds ++ es))) c) (fun e b => C.ex e (s0 :: s1 :: s2 :: s3 :: s4 :: s5 :: s6 :: s7 :: s8 :: s9 :: s10 :: (.own ds) :: r) b)) := by simp only [Eo.af_eq, Ro.af_eq, So.af_eq]; exact ((So.aft_of ..).trans (congrArg (fun f => Eo.aft _ f _) (funext fun es => funext fun c => by by_cases h : ds.length + es.length ≤ 16777216 <;> simp only [h, if_true, if_false, true_and, false_and] <;> rfl)))
theorem qleak_11 (s0 s1 s2 s3 s4 s5 s6 s7 s8 s9 s10 : Sl) (ds : List D) (m : MS) (r : Rho) (c : Be) (C : Co) : ((mLeak 11 m (s0 :: s1 :: s2 :: s3 :: s4 :: s5 :: s6 :: s7 :: s8 :: s9 :: s10 :: (.own ds) :: r) c).af C) = ((m ((s0 :: s1 :: s2 :: s3 :: s4 :: s5 :: s6 :: s7 :: s8 :: s9 :: s10 :: (.own ds) :: r).set 11 (.val (.lst ds))) c).af C) := by simp only [Eo.af_eq, Ro.af_eq, So.af_eq]; exact (propext ⟨fun h => h, fun h => h⟩)
theorem qwv_12 (s0 s1 s2 s3 s4 s5 s6 s7 s8 s9 s10 s11 : Sl) (d : D) (r : Rho) (c : Be) (P : D → Be → Prop) (E : D → Be → Prop) : ((mVw 12 (s0 :: s1 :: s2 :: s3 :: s4 :: s5 :: s6 :: s7 :: s8 :: s9 :: s10 :: s11 :: (.val d) :: r) c).af P E) = (P d c) := by simp only [Eo.af_eq, Ro.af_eq, So.af_eq]; exact (propext ⟨fun h => h, fun h => h⟩)
theorem qwo_12 (s0 s1 s2 s3 s4 s5 s6 s7 s8 s9 s10 s11 : Sl) (ds : List D) (r : Rho) (c : Be) (P : D → Be → Prop) (E : D → Be → Prop) : ((mVw 12 (s0 :: s1 :: s2 :: s3 :: s4 :: s5 :: s6 :: s7 :: s8 :: s9 :: s10 :: s11 :: (.own ds) :: r) c).af P E) = (P (.lst ds) c) := by simp only [Eo.af_eq, Ro.af_eq, So.af_eq]; exact (propext ⟨fun h => h, fun h => h⟩)
theorem qx_12 (s0 s1 s2 s3 s4 s5 s6 s7 s8 s9 s10 s11 : Sl) (d : D) (r : Rho) (c : Be) (P : D → Be → Prop) (E : D → Be → Prop) : ((mVar 12 (s0 :: s1 :: s2 :: s3 :: s4 :: s5 :: s6 :: s7 :: s8 :: s9 :: s10 :: s11 :: (.val d) :: r) c).af P E) = (P d c) := by simp only [Eo.af_eq, Ro.af_eq, So.af_eq]; exact (propext ⟨fun h => h, fun h => h⟩)
theorem qapp_12 (s0 s1 s2 s3 s4 s5 s6 s7 s8 s9 s10 s11 : Sl) (ds : List D) (m : ME) (r : Rho) (c : Be) (C : Co) : ((mApp 12 m (s0 :: s1 :: s2 :: s3 :: s4 :: s5 :: s6 :: s7 :: s8 :: s9 :: s10 :: s11 :: (.own ds) :: r) c).af C) = ((m (s0 :: s1 :: s2 :: s3 :: s4 :: s5 :: s6 :: s7 :: s8 :: s9 :: s10 :: s11 :: (.own ds) :: r) c).af (fun d c => ds.length + 1 ≤ 16777216 ∧ C.nx ((s0 :: s1 :: s2 :: s3 :: s4 :: s5 :: s6 :: s7 :: s8 :: s9 :: s10 :: s11 :: (.own ds) :: r).set 12 (.own (ds ++ [d]))) c) (fun e b => C.ex e (s0 :: s1 :: s2 :: s3 :: s4 :: s5 :: s6 :: s7 :: s8 :: s9 :: s10 :: s11 :: (.own ds) :: r) b)) := by simp only [Eo.af_eq, Ro.af_eq, So.af_eq]; exact ((So.aft_of ..).trans (congrArg (fun f => Eo.aft _ f _) (funext fun d => funext fun c => by by_cases h : ds.length + 1 ≤ 16777216 <;> simp only [h, if_true, if_false, true_and, false_and] <;> rfl)))
theorem qext_12 (s0 s1 s2 s3 s4 s5 s6 s7 s8 s9 s10 s11 : Sl) (ds : List D) (m : MA) (r : Rho) (c : Be) (C : Co) : ((mExt 12 m (s0 :: s1 :: s2 :: s3 :: s4 :: s5 :: s6 :: s7 :: s8 :: s9 :: s10 :: s11 :: (.own ds) :: r) c).af C) = ((m (s0 :: s1 :: s2 :: s3 :: s4 :: s5 :: s6 :: s7 :: s8 :: s9 :: s10 :: s11 :: (.own ds) :: r) c).af (fun es c => ds.length + es.length ≤ 16777216 ∧ C.nx ((s0 :: s1 :: s2 :: s3 :: s4 :: s5 :: s6 :: s7 :: s8 :: s9 :: s10 :: s11 :: (.own ds) :: r).set 12 (.own (ds ++ es))) c) (fun e b => C.ex e (s0 :: s1 :: s2 :: s3 :: s4 :: s5 :: s6 :: s7 :: s8 :: s9 :: s10 :: s11 :: (.own ds) :: r) b)) := by simp only [Eo.af_eq, Ro.af_eq, So.af_eq]; exact ((So.aft_of ..).trans (congrArg (fun f => Eo.aft _ f _) (funext fun es => funext fun c => by by_cases h : ds.length + es.length ≤ 16777216 <;> simp only [h, if_true, if_false, true_and, false_and] <;> rfl)))
theorem qleak_12 (s0 s1 s2 s3 s4 s5 s6 s7 s8 s9 s10 s11 : Sl) (ds : List D) (m : MS) (r : Rho) (c : Be) (C : Co) : ((mLeak 12 m (s0 :: s1 :: s2 :: s3 :: s4 :: s5 :: s6 :: s7 :: s8 :: s9 :: s10 :: s11 :: (.own ds) :: r) c).af C) = ((m ((s0 :: s1 :: s2 :: s3 :: s4 :: s5 :: s6 :: s7 :: s8 :: s9 :: s10 :: s11 :: (.own ds) :: r).set 12 (.val (.lst ds))) c).af C) := by simp only [Eo.af_eq, Ro.af_eq, So.af_eq]; exact (propext ⟨fun h => h, fun h => h⟩)
theorem qwv_13 (s0 s1 s2 s3 s4 s5 s6 s7 s8 s9 s10 s11 s12 : Sl) (d : D) (r : Rho) (c : Be) (P : D → Be → Prop) (E : D → Be → Prop) : ((mVw 13 (s0 :: s1 :: s2 :: s3 :: s4 :: s5 :: s6 :: s7 :: s8 :: s9 :: s10 :: s11 :: s12 :: (.val d) :: r) c).af P E) = (P d c) := by simp only [Eo.af_eq, Ro.af_eq, So.af_eq]; exact (propext ⟨fun h => h, fun h => h⟩)
theorem qwo_13 (s0 s1 s2 s3 s4 s5 s6 s7 s8 s9 s10 s11 s12 : Sl) (ds : List D) (r : Rho) (c : Be) (P : D → Be → Prop) (E : D → Be → Prop) : ((mVw 13 (s0 :: s1 :: s2 :: s3 :: s4 :: s5 :: s6 :: s7 :: s8 :: s9 :: s10 :: s11 :: s12 :: (.own ds) :: r) c).af P E) = (P (.lst ds) c) := by simp only [Eo.af_eq, Ro.af_eq, So.af_eq]; exact (propext ⟨fun h => h, fun h => h⟩)
theorem qx_13 (s0 s1 s2 s3 s4 s5 s6 s7 s8 s9 s10 s11 s12 : Sl) (d : D) (r : Rho) (c : Be) (P : D → Be → Prop) (E : D → Be → Prop) : ((mVar 13 (s0 :: s1 :: s2 :: s3 :: s4 :: s5 :: s6 :: s7 :: s8 :: s9 :: s10 :: s11 :: s12 :: (.val d) :: r) c).af P E) = (P d c) := by simp only [Eo.af_eq, Ro.af_eq, So.af_eq]; exact (propext ⟨fun h => h, fun h => h⟩)
theorem qapp_13 (s0 s1 s2 s3 s4 s5 s6 s7 s8 s9 s10 s11 s12 : Sl) (ds : List D) (m : ME) (r : Rho) (c : Be) (C : Co) : ((mApp 13 m (s0 :: s1 :: s2 :: s3 :: s4 :: s5 :: s6 :: s7 :: s8 :: s9 :: s10 :: s11 :: s12 :: (.own ds) :: r) c).af C) = ((m (s0 :: s1 :: s2 :: s3 :: s4 :: s5 :: s6 :: s7 :: s8 :: s9 :: s10 :: s11 :: s12 :: (.own ds) :: r) c).af (fun d c => ds.length + 1 ≤ 16777216 ∧ C.nx ((s0 :: s1 :: s2 :: s3 :: s4 :: s5 :: s6 :: s7 :: s8 :: s9 :: s10 :: s11 :: s12 :: (.own ds) :: r).set 13 (.own (ds ++ [d]))) c) (fun e b => C.ex e (s0 :: s1 :: s2 :: s3 :: s4 :: s5 :: s6 :: s7 :: s8 :: s9 :: s10 :: s11 :: s12 :: (.own ds) :: r) b)) := by simp only [Eo.af_eq, Ro.af_eq, So.af_eq]; exact ((So.aft_of ..).trans (congrArg (fun f => Eo.aft _ f _) (funext fun d => funext fun c => by by_cases h : ds.length + 1 ≤ 16777216 <;> simp only [h, if_true, if_false, true_and, false_and] <;> rfl)))
theorem qext_13 (s0 s1 s2 s3 s4 s5 s6 s7 s8 s9 s10 s11 s12 : Sl) (ds : List D) (m : MA) (r : Rho) (c : Be) (C : Co) : ((mExt 13 m (s0 :: s1 :: s2 :: s3 :: s4 :: s5 :: s6 :: s7 :: s8 :: s9 :: s10 :: s11 :: s12 :: (.own ds) :: r) c).af C) = ((m (s0 :: s1 :: s2 :: s3 :: s4 :: s5 :: s6 :: s7 :: s8 :: s9 :: s10 :: s11 :: s12 :: (.own ds) :: r) c).af (fun es c => ds.length + es.length ≤ 16777216 ∧ C.nx ((s0 :: s1 :: s2 :: s3 :: s4 :: s5 :: s6 :: s7 :: s8 :: s9 :: s10 :: s11 :: s12 :: (.own ds) :: r).set 13 (.own (ds ++ es))) c) (fun e b => C.ex e (s0 :: s1 :: s2 :: s3 :: s4 :: s5 :: s6 :: s7 :: s8 :: s9 :: s10 :: s11 :: s12 :: (.own ds) :: r) b)) := by simp only [Eo.af_eq, Ro.af_eq, So.af_eq]; exact ((So.aft_of ..).trans (congrArg (fun f => Eo.aft _ f _) (funext fun es => funext fun c => by by_cases h : ds.length + es.length ≤ 16777216 <;> simp only [h, if_true, if_false, true_and, false_and] <;> rfl)))
theorem qleak_13 (s0 s1 s2 s3 s4 s5 s6 s7 s8 s9 s10 s11 s12 : Sl) (ds : List D) (m : MS) (r : Rho) (c : Be) (C : Co) : ((mLeak 13 m (s0 :: s1 :: s2 :: s3 :: s4 :: s5 :: s6 :: s7 :: s8 :: s9 :: s10 :: s11 :: s12 :: (.own ds) :: r) c).af C) = ((m ((s0 :: s1 :: s2 :: s3 :: s4 :: s5 :: s6 :: s7 :: s8 :: s9 :: s10 :: s11 :: s12 :: (.own ds) :: r).set 13 (.val (.lst ds))) c).af C) := by simp only [Eo.af_eq, Ro.af_eq, So.af_eq]; exact (propext ⟨fun h => h, fun h => h⟩)
theorem qwv_14 (s0 s1 s2 s3 s4 s5 s6 s7 s8 s9 s10 s11 s12 s13 : Sl) (d : D) (r : Rho) (c : Be) (P : D → Be → Prop) (E : D → Be → Prop) : ((mVw 14 (s0 :: s1 :: s2 :: s3 :: s4 :: s5 :: s6 :: s7 :: s8 :: s9 :: s10 :: s11 :: s12 :: s13 :: (.val d) :: r) c).af P E) = (P d c) := by simp only [Eo.af_eq, Ro.af_eq, So.af_eq]; exact (propext ⟨fun h => h, fun h => h⟩)
theorem qwo_14 (s0 s1 s2 s3 s4 s5 s6 s7 s8 s9 s10 s11 s12 s13 : Sl) (ds : List D) (r : Rho) (c : Be) (P : D → Be → Prop) (E : D → Be → Prop) : ((mVw 14 (s0 :: s1 :: s2 :: s3 :: s4 :: s5 :: s6 :: s7 :: s8 :: s9 :: s10 :: s11 :: s12 :: s13 :: (.own ds) :: r) c).af P E) = (P (.lst ds) c) := by simp only [Eo.af_eq, Ro.af_eq, So.af_eq]; exact (propext ⟨fun h => h, fun h => h⟩)
theorem qx_14 (s0 s1 s2 s3 s4 s5 s6 s7 s8 s9 s10 s11 s12 s13 : Sl) (d : D) (r : Rho) (c : Be) (P : D → Be → Prop) (E : D → Be → Prop) : ((mVar 14 (s0 :: s1 :: s2 :: s3 :: s4 :: s5 :: s6 :: s7 :: s8 :: s9 :: s10 :: s11 :: s12 :: s13 :: (.val d) :: r) c).af P E) = (P d c) := by simp only [Eo.af_eq, Ro.af_eq, So.af_eq]; exact (propext ⟨fun h => h, fun h => h⟩)
theorem qapp_14 (s0 s1 s2 s3 s4 s5 s6 s7 s8 s9 s10 s11 s12 s13 : Sl) (ds : List D) (m : ME) (r : Rho) (c : Be) (C : Co) : ((mApp 14 m (s0 :: s1 :: s2 :: s3 :: s4 :: s5 :: s6 :: s7 :: s8 :: s9 :: s10 :: s11 :: s12 :: s13 :: (.own ds) :: r) c).af C) = ((m (s0 :: s1 :: s2 :: s3 :: s4 :: s5 :: s6 :: s7 :: s8 :: s9 :: s10 :: s11 :: s12 :: s13 :: (.own ds) :: r) c).af (fun d c => ds.length + 1 ≤ 16777216 ∧ C.nx ((s0 :: s1 :: s2 :: s3 :: s4 :: s5 :: s6 :: s7 :: s8 :: s9 :: s10 :: s11 :: s12 :: s13 :: (.own ds) :: r).set 14 (.own (ds ++ [d]))) c) (fun e b => C.ex e (s0 :: s1 :: s2 :: s3 :: s4 :: s5 :: s6 :: s7 :: s8 :: s9 :: s10 :: s11 :: s12 :: s13 :: (.own ds) :: r) b)) := by simp only [Eo.af_eq, Ro.af_eq, So.af_eq]; exact ((So.aft_of ..).trans (congrArg (fun f => Eo.aft _ f _) (funext fun d => funext fun c => by by_cases h : ds.length + 1 ≤ 16777216 <;> simp only [h, if_true, if_false, true_and, false_and] <;> rfl)))
theorem qext_14 (s0 s1 s2 s3 s4 s5 s6 s7 s8 s9 s10 s11 s12 s13 : Sl) (ds : List D) (m : MA) (r : Rho) (c : Be) (C : Co) : ((mExt 14 m (s0 :: s1 :: s2 :: s3 :: s4 :: s5 :: s6 :: s7 :: s8 :: s9 :: s10 :: s11 :: s12 :: s13 :: (.own ds) :: r) c).af C) = ((m (s0 :: s1 :: s2 :: s3 :: s4 :: s5 :: s6 :: s7 :: s8 :: s9 :: s10 :: s11 :: s12 :: s13 :: (.own ds) :: r) c).af (fun es c => ds.length + es.length ≤ 16777216 ∧ C.nx ((s0 :: s1 :: s2 :: s3 :: s4 :: s5 :: s6 :: s7 :: s8 :: s9 :: s10 :: s11 :: s12 :: s13 :: (.own ds) :: r).set 14 (.own (ds ++ es))) c) (fun e b => C.ex e (s0 :: s1 :: s2 :: s3 :: s4 :: s5 :: s6 :: s7 :: s8 :: s9 :: s10 :: s11 :: s12 :: s13 :: (.own ds) :: r) b)) := by simp only [Eo.af_eq, Ro.af_eq, So.af_eq]; exact ((So.aft_of ..).trans (congrArg (fun f => Eo.aft _ f _) (funext fun es => funext fun c => by by_cases h : ds.length + es.length ≤ 16777216 <;> simp only [h, if_true, if_false, true_and, false_and] <;> rfl)))
theorem qleak_14 (s0 s1 s2 s3 s4 s5 s6 s7 s8 s9 s10 s11 s12 s13 : Sl) (ds : List D) (m : MS) (r : Rho) (c : Be) (C : Co) : ((mLeak 14 m (s0 :: s1 :: s2 :: s3 :: s4 :: s5 :: s6 :: s7 :: s8 :: s9 :: s10 :: s11 :: s12 :: s13 :: (.own ds) :: r) c).af C) = ((m ((s0 :: s1 :: s2 :: s3 :: s4 :: s5 :: s6 :: s7 :: s8 :: s9 :: s10 :: s11 :: s12 :: s13 :: (.own ds) :: r).set 14 (.val (.lst ds))) c).af C) := by simp only [Eo.af_eq, Ro.af_eq, So.af_eq]; exact (propext ⟨fun h => h, fun h => h⟩)
theorem qwv_15 (s0 s1 s2 s3 s4 s5 s6 s7 s8 s9 s10 s11 s12 s13 s14 : Sl) (d : D) (r : Rho) (c : Be) (P : D → Be → Prop) (E : D → Be → Prop) : ((mVw 15 (s0 :: s1 :: s2 :: s3 :: s4 :: s5 :: s6 :: s7 :: s8 :: s9 :: s10 :: s11 :: s12 :: s13 :: s14 :: (.val d) :: r) c).af P E) = (P d c) := by simp only [Eo.af_eq, Ro.af_eq, So.af_eq]; exact (propext ⟨fun h => h, fun h => h⟩)
theorem qwo_15 (s0 s1 s2 s3 s4 s5 s6 s7 s8 s9 s10 s11 s12 s13 s14 : Sl) (ds : List D) (r : Rho) (c : Be) (P : D → Be → Prop) (E : D → Be → Prop) : ((mVw 15 (s0 :: s1 :: s2 :: s3 :: s4 :: s5 :: s6 :: s7 :: s8 :: s9 :: s10 :: s11 :: s12 :: s13 :: s14 :: (.own ds) :: r) c).af P E) = (P (.lst ds) c) := by simp only [Eo.af_eq, Ro.af_eq, So.af_eq]; exact (propext ⟨fun h => h, fun h => h⟩)
theorem qx_15 (s0 s1 s2 s3 s4 s5 s6 s7 s8 s9 s10 s11 s12 s13 s14 : Sl) (d : D) (r : Rho) (c : Be) (P : D → Be → Prop) (E : D → Be → Prop) : ((mVar 15 (s0 :: s1 :: s2 :: s3 :: s4 :: s5 :: s6 :: s7 :: s8 :: s9 :: s10 :: s11 :: s12 :: s13 :: s14 :: (.val d) :: r) c).af P E) = (P d c) := by simp only [Eo.af_eq, Ro.af_eq, So.af_eq]; exact (propext ⟨fun h => h, fun h => h⟩)
theorem qapp_15 (s0 s1 s2 s3 s4 s5 s6 s7 s8 s9 s10 s11 s12 s13 s14 : Sl) (ds : List D) (m : ME) (r : Rho) (c : Be) (C : Co) : ((mApp 15 m (s0 :: s1 :: s2 :: s3 :: s4 :: s5 :: s6 :: s7 :: s8 :: s9 :: s10 :: s11 :: s12 :: s13 :: s14 :: (.own ds) :: r) c).af C) = ((m (s0 :: s1 :: s2 :: s3 :: s4 :: s5 :: s6 :: s7 :: s8 :: s9 :: s10 :: s11 :: s12 :: s13 :: s14 :: (.own ds) :: r) c).af (fun d c => ds.length + 1 ≤ 16777216 ∧ C.nx ((s0 :: s1 :: s2 :: s3 :: s4 :: s5 :: s6 :: s7 :: s8 :: s9 :: s10 :: s11 :: s12 :: s13 :: s14 :: (.own ds) :: r).set 15 (.own (ds ++ [d]))) c) (fun e b => C.ex e (s0 :: s1 :: s2 :: s3 :: s4 :: s5 :: s6 :: s7 :: s8 :: s9 :: s10 :: s11 :: s12 :: s13 :: s14 :: (.own ds) :: r) b)) := by simp only [Eo.af_eq, Ro.af_eq, So.af_eq]; exact ((So.aft_of ..).trans (congrArg (fun f => Eo.aft _ f _) (funext fun d => funext fun c => by by_cases h : ds.length + 1 ≤ 16777216 <;> simp only [h, if_true, if_false, true_and, false_and] <;> rfl)))
theorem qext_15 (s0 s1 s2 s3 s4 s5 s6 s7 s8 s9 s10 s11 s12 s13 s14 : Sl) (ds : List D) (m : MA) (r : Rho) (c : Be) (C : Co) : ((mExt 15 m (s0 :: s1 :: s2 :: s3 :: s4 :: s5 :: s6 :: s7 :: s8 :: s9 :: s10 :: s11 :: s12 :: s13 :: s14 :: (.own ds) :: r) c).af C) = ((m (s0 :: s1 :: s2 :: s3 :: s4 :: s5 :: s6 :: s7 :: s8 :: s9 :: s10 :: s11 :: s12 :: s13 :: s14 :: (.own ds) :: r) c).af (fun es c => ds.length + es.length ≤ 16777216 ∧ C.nx ((s0 :: s1 :: s2 :: s3 :: s4 :: s5 :: s6 :: s7 :: s8 :: s9 :: s10 :: s11 :: s12 :: s13 :: s14 :: (.own ds) :: r).set 15 (.own (ds ++ es))) c) (fun e b => C.ex e (s0 :: s1 :: s2 :: s3 :: s4 :: s5 :: s6 :: s7 :: s8 :: s9 :: s10 :: s11 :: s12 :: s13 :: s14 :: (.own ds) :: r) b)) := by simp only [Eo.af_eq, Ro.af_eq, So.af_eq]; exact ((So.aft_of ..).trans (congrArg (fun f => Eo.aft _ f _) (funext fun es => funext fun c => by by_cases h : ds.length + es.length ≤ 16777216 <;> simp only [h, if_true, if_false, true_and, false_and] <;> rfl)))
theorem qleak_15 (s0 s1 s2 s3 s4 s5 s6 s7 s8 s9 s10 s11 s12 s13 s14 : Sl) (ds : List D) (m : MS) (r : Rho) (c : Be) (C : Co) : ((mLeak 15 m (s0 :: s1 :: s2 :: s3 :: s4 :: s5 :: s6 :: s7 :: s8 :: s9 :: s10 :: s11 :: s12 :: s13 :: s14 :: (.own ds) :: r) c).af C) = ((m ((s0 :: s1 :: s2 :: s3 :: s4 :: s5 :: s6 :: s7 :: s8 :: s9 :: s10 :: s11 :: s12 :: s13 :: s14 :: (.own ds) :: r).set 15 (.val (.lst ds))) c).af C) := by simp only [Eo.af_eq, Ro.af_eq, So.af_eq]; exact (propext ⟨fun h => h, fun h => h⟩)
end GX
namespace GX
open PySem PySem.Spec PyProof.Rows L2
theorem Ro.ok_af {α : Type} {r : Ro α} {a : α} (h : r.af (fun b => b = a) fun _ => False) : r = .ok a := Ro.ok_of (by simp only [Ro.af_eq] at h; exact h)
abbrev Pt := Int × Int
abbrev gt0 (l : List Pt) (i : Nat) : Pt := l.getD i (0, 0)
theorem lay_pairs (cs : List Pt) : PyData.canLayAll0 (cs.map pairPy) = true := by
  induction cs with
  | nil => simp [PyData.canLayAll0]
  | cons c cs ih => simp [PyData.canLayAll0, PyData.canLay0, pairPy, ih]
theorem depth_pairs (cs : List Pt) : PyData.depthAll (cs.map pairPy) ≤ 3 := by
  induction cs with
  | nil => simp [PyData.depthAll]
  | cons c cs ih =>
    rw [List.map_cons, PyData.depthAll]
    have := depth_pair c
    omega
theorem shaped_pr (p : Pt) : SeqAt.shaped (pr p).py = true := by
  rw [pr_py]
  simp [SeqAt.shaped, pairPy, PyData.canLay0, PyData.canLayAll0, PyData.depth, PyData.depthAll]
theorem shaped_prs (cs : List Pt) : SeqAt.shaped (D.lst (prs cs)).py = true := by
  rw [D.py, prs_py, SeqAt.shaped, PyData.canLay0, lay_pairs, PyData.depth]
  have := depth_pairs cs
  simp; omega
theorem eqv_pr (p q : Pt) : PyData.eqv (pr p).py (pr q).py = decide (p = q) := by
  rw [pr_py, pr_py]
  obtain ⟨a, b⟩ := p
  obtain ⟨c, d⟩ := q
  simp only [pairPy, PyData.eqv, PyData.eqvAll, Bool.and_true, Prod.mk.injEq]
  rw [Bool.eq_iff_iff]
  simp
theorem eqv_prs : ∀ ps qs : List Pt, PyData.eqv (D.lst (prs ps)).py (D.lst (prs qs)).py = decide (ps = qs) := by
  intro ps qs
  rw [D.py, D.py, PyData.eqv]
  induction ps generalizing qs with
  | nil => cases qs <;> simp [prs, D.pys, PyData.eqvAll]
  | cons p ps ih =>
    cases qs with
    | nil => simp [prs, D.pys, PyData.eqvAll]
    | cons q qs =>
      show PyData.eqvAll ((pr p).py :: D.pys (prs ps)) ((pr q).py :: D.pys (prs qs)) = _
      rw [PyData.eqvAll, eqv_pr, ih]
      rw [Bool.eq_iff_iff]
      simp
theorem okEq_pr (p : Pt) : (pr p).okEq = true := by unfold D.okEq; rw [pr_plain, shaped_pr]; rfl
theorem okEq_prs (p : List Pt) : (D.lst (prs p)).okEq = true := by unfold D.okEq; rw [shaped_prs, D.plain, prs_plain]; rfl
theorem neD_pr {p q : Pt} : gNeD (pr p) (pr q) = some (.bl (!decide (p = q))) := by unfold gNeD; rw [okEq_pr, okEq_pr, eqv_pr]; rfl
theorem eqD_pr {p q : Pt} : gEqD (pr p) (pr q) = some (.bl (decide (p = q))) := by unfold gEqD; rw [okEq_pr, okEq_pr, eqv_pr]; rfl
theorem neD_prs {p q : List Pt} : gNeD (.lst (prs p)) (.lst (prs q)) = some (.bl (!decide (p = q))) := by unfold gNeD; rw [okEq_prs, okEq_prs, eqv_prs]; rfl
theorem eqD_prs {p q : List Pt} : gEqD (.lst (prs p)) (.lst (prs q)) = some (.bl (decide (p = q))) := by unfold gEqD; rw [okEq_prs, okEq_prs, eqv_prs]; rfl
mutual
/-- ints of at most k + 1 signs, no texts -/
def D.fit (k : Nat) : D → Prop
  | .non => True
  | .bl _ => True
  | .int i => i.natAbs < 10 ^ k
  | .lst ds => D.fits k ds
  | .tup ds => D.fits k ds
  | _ => False
def D.fits (k : Nat) : List D → Prop
  | [] => True
  | d :: ds => d.fit k ∧ D.fits k ds
end
end GX
namespace GX
def crs (a b c : Pt) : Int := (b.1 - a.1) * (c.2 - a.2) - (b.2 - a.2) * (c.1 - a.1)
def psv (a b : Int) : Prop := 0 < a ∨ (a = 0 ∧ 0 < b)
theorem psv_of {p q : Pt} (h : plt p q) : psv (q.1 - p.1) (q.2 - p.2) := by
  rcases h with h | ⟨h, h2⟩
  · left; omega
  · right; omega
/-- slopes of positive vectors -/
theorem slope {a b c d e f : Int} (hu : psv a b) (hv : psv c d) (hw : psv e f) (h1 : 0 ≤ a * d - b * c) (h2 : 0 ≤ c * f - d * e) (h : 0 < a * d - b * c ∨ 0 < c * f - d * e) : 0 < a * f - b * e := by
  have ha : 0 ≤ a := by rcases hu with h | ⟨h, _⟩ <;> omega
  have he : 0 ≤ e := by rcases hw with h | ⟨h, _⟩ <;> omega
  rcases hv with hc | ⟨hc, hd⟩
  · have key : c * (a * f - b * e) = a * (c * f - d * e) + e * (a * d - b * c) := by grind
    have n1 := Int.mul_nonneg ha h2
    have n2 := Int.mul_nonneg he h1
    have pos : 0 < a * (c * f - d * e) + e * (a * d - b * c) := by
      rcases h with h | h
      · rcases hw with he' | ⟨he', hf⟩
        · have := Int.mul_pos he' h; omega
        · rcases hu with ha' | ⟨ha', hb⟩
          · have : 0 < c * f - d * e := by
              subst he'
              have := Int.mul_pos hc hf
              simp only [Int.mul_zero]; omega
            have := Int.mul_pos ha' this; omega
          · exfalso
            subst ha'
            have := Int.mul_pos hb hc
            simp only [Int.zero_mul] at h; omega
      · rcases hu with ha' | ⟨ha', hb⟩
        · have := Int.mul_pos ha' h; omega
        · exfalso
          subst ha'
          have := Int.mul_pos hb hc
          simp only [Int.zero_mul] at h1; omega
    rw [← key] at pos
    rcases Int.lt_or_le 0 (a * f - b * e) with q | q
    · exact q
    · have := Int.mul_le_mul_of_nonneg_left q (Int.le_of_lt hc)
      rw [Int.mul_zero] at this
      omega
  · subst hc
    simp only [Int.zero_mul, Int.mul_zero, Int.sub_zero, Int.zero_sub] at *
    have e0 : e = 0 := by
      rcases Int.lt_or_eq_of_le he with h' | h'
      · have := Int.mul_pos hd h'; omega
      · exact h'.symm
    subst e0
    simp only [Int.mul_zero, Int.sub_zero, Int.neg_zero] at *
    have hf : 0 < f := by rcases hw with h' | ⟨_, h'⟩ <;> omega
    have ha' : 0 < a := by
      rcases Int.lt_or_eq_of_le ha with h' | h'
      · exact h'
      · exfalso; subst h'; simp at h
    exact Int.mul_pos ha' hf
structure Ch (p : Nat → Pt) (k : Nat) : Prop where
  up : ∀ i, i < k → plt (p i) (p (i + 1))
  turn : ∀ i, i + 1 < k → 0 < crs (p i) (p (i + 1)) (p (i + 2))
theorem Ch.lt {p : Nat → Pt} {k : Nat} (h : Ch p k) (i : Nat) : ∀ j, i + j + 1 ≤ k → plt (p i) (p (i + j + 1))
  | 0, hj => h.up i (by omega)
  | j + 1, hj => plt_trans (Ch.lt h i j (by omega)) (h.up (i + j + 1) (by omega))
theorem Ch.lt' {p : Nat → Pt} {k : Nat} (h : Ch p k) {i j : Nat} (hij : i < j) (hj : j ≤ k) : plt (p i) (p j) := by
  have := h.lt i (j - i - 1) (by omega)
  rwa [show i + (j - i - 1) + 1 = j by omega] at this
/-- the first point and a side -/
theorem Ch.a {p : Nat → Pt} {k : Nat} (h : Ch p k) : ∀ i, i + 2 ≤ k → 0 < crs (p 0) (p (i + 1)) (p (i + 2))
  | 0, hi => h.turn 0 (by omega)
  | i + 1, hi => by
    have ih := Ch.a h i (by omega)
    have t := h.turn (i + 1) (by omega)
    have u1 := psv_of (h.lt' (i := 0) (j := i + 1) (by omega) (by omega))
    have u2 := psv_of (h.up (i + 1) (by omega))
    have u3 := psv_of (h.up (i + 2) (by omega))
    unfold crs at *
    have s := slope u1 u2 u3 (by grind) (by grind) (.inl (by grind))
    grind
/-- a side and the last point -/
theorem Ch.b {p : Nat → Pt} {k : Nat} (h : Ch p k) : ∀ d i, i + d + 2 = k → 0 < crs (p i) (p (i + 1)) (p k)
  | 0, i, hi => by have := h.turn i (by omega); rwa [show i + 2 = k by omega] at this
  | d + 1, i, hi => by
    have ih := Ch.b h d (i + 1) (by omega)
    have t := h.turn i (by omega)
    have u1 := psv_of (h.up i (by omega))
    have u2 := psv_of (h.up (i + 1) (by omega))
    have u3 := psv_of (h.lt' (i := i + 2) (j := k) (by omega) (by omega))
    rw [show i + 1 + 1 = i + 2 by omega] at ih u2
    unfold crs at *
    have s := slope u1 u2 u3 (by grind) (by grind) (.inl (by grind))
    grind
theorem Ch.b' {p : Nat → Pt} {k : Nat} (h : Ch p k) {i : Nat} (hi : i + 2 ≤ k) : 0 < crs (p i) (p (i + 1)) (p k) := h.b (k - i - 2) i (by omega)
/-- a point within, and both ends -/
theorem Ch.c {p : Nat → Pt} {k : Nat} (h : Ch p k) {i : Nat} (h0 : 0 < i) (hi : i < k) : 0 < crs (p 0) (p i) (p k) := by
  have a := h.a (i - 1) (by omega)
  rw [show i - 1 + 1 = i by omega, show i - 1 + 2 = i + 1 by omega] at a
  have u1 := psv_of (h.lt' (i := 0) (j := i) (by omega) (by omega))
  have u2 := psv_of (h.up i hi)
  have u3 := psv_of (h.lt' (i := i) (j := k) hi (by omega))
  by_cases e : i + 1 = k
  · rw [e] at a; exact a
  · have b := h.b' (i := i) (by omega)
    unfold crs at *
    have s := slope u1 u2 u3 (by grind) (by grind) (.inl (by grind))
    grind
end GX
namespace GX
/-- a chain, its last point first -/
def push : List Pt → Pt → List Pt
  | b :: a :: r, p => if crs a b p ≤ 0 then push (a :: r) p else p :: b :: a :: r
  | l, p => p :: l
end GX
namespace GX
def Good (cs : List Pt) : Prop := (∃ p, cs = [p]) ∨ (∃ a b, cs = [a, b] ∧ plt a b) ∨
  (3 ≤ cs.length ∧ (∀ x ∈ cs, ¬ plt x (gt0 cs 0)) ∧ (∀ i, i < cs.length → 0 < crs (gt0 cs i) (gt0 cs ((i + 1) % cs.length)) (gt0 cs ((i + 2) % cs.length))) ∧
    (∀ i, 1 ≤ i → i + 1 < cs.length → 0 < crs (gt0 cs 0) (gt0 cs i) (gt0 cs (i + 1))))
end GX
namespace GX
open PySem PySem.Spec PyProof.Rows L2
end GX
namespace GX
open PySem PySem.Spec PyProof.Rows L2
theorem q_rok (d : D) (P E : D → Prop) : (Ro.ok d).af P E = P d := by simp only [Ro.af_eq, Eo.af_eq]; exact propext ⟨fun h => h, fun h => h⟩
theorem q_rokL (d : List D) (P : List D → Prop) (E : D → Prop) : (Ro.ok d).af P E = P d := by simp only [Ro.af_eq, Eo.af_eq]; exact propext ⟨fun h => h, fun h => h⟩
theorem q_rex (d : D) (P E : D → Prop) : (Ro.ex d).af P E = E d := by simp only [Ro.af_eq, Eo.af_eq]; exact propext ⟨fun h => h, fun h => h⟩
theorem q_eok (d : D) (c : Be) (P E : D → Be → Prop) : (Eo.ok d c).af P E = P d c := by simp only [Ro.af_eq, Eo.af_eq]; exact propext ⟨fun h => h, fun h => h⟩
theorem q_eokL (d : List D) (c : Be) (P : List D → Be → Prop) (E : D → Be → Prop) : (Eo.ok d c).af P E = P d c := by simp only [Ro.af_eq, Eo.af_eq]; exact propext ⟨fun h => h, fun h => h⟩
theorem q_isi_n_int  (c : Be) (P E : D → Be → Prop) : (Eo.opt (gIsi [.non, .ty "int"]) c).af P E = P (.bl false) c := by rw [Eo.af_eq]; exact propext ⟨fun h => h, fun h => h⟩
theorem q_isi_n_bool  (c : Be) (P E : D → Be → Prop) : (Eo.opt (gIsi [.non, .ty "bool"]) c).af P E = P (.bl false) c := by rw [Eo.af_eq]; exact propext ⟨fun h => h, fun h => h⟩
theorem q_isi_n_tuple  (c : Be) (P E : D → Be → Prop) : (Eo.opt (gIsi [.non, .ty "tuple"]) c).af P E = P (.bl false) c := by rw [Eo.af_eq]; exact propext ⟨fun h => h, fun h => h⟩
theorem q_isi_n_list  (c : Be) (P E : D → Be → Prop) : (Eo.opt (gIsi [.non, .ty "list"]) c).af P E = P (.bl false) c := by rw [Eo.af_eq]; exact propext ⟨fun h => h, fun h => h⟩
theorem q_isi_n_str  (c : Be) (P E : D → Be → Prop) : (Eo.opt (gIsi [.non, .ty "str"]) c).af P E = P (.bl false) c := by rw [Eo.af_eq]; exact propext ⟨fun h => h, fun h => h⟩
theorem q_isi_b_int (b : Bool) (c : Be) (P E : D → Be → Prop) : (Eo.opt (gIsi [.bl b, .ty "int"]) c).af P E = P (.bl true) c := by rw [Eo.af_eq]; exact propext ⟨fun h => h, fun h => h⟩
theorem q_isi_b_bool (b : Bool) (c : Be) (P E : D → Be → Prop) : (Eo.opt (gIsi [.bl b, .ty "bool"]) c).af P E = P (.bl true) c := by rw [Eo.af_eq]; exact propext ⟨fun h => h, fun h => h⟩
theorem q_isi_b_tuple (b : Bool) (c : Be) (P E : D → Be → Prop) : (Eo.opt (gIsi [.bl b, .ty "tuple"]) c).af P E = P (.bl false) c := by rw [Eo.af_eq]; exact propext ⟨fun h => h, fun h => h⟩
theorem q_isi_b_list (b : Bool) (c : Be) (P E : D → Be → Prop) : (Eo.opt (gIsi [.bl b, .ty "list"]) c).af P E = P (.bl false) c := by rw [Eo.af_eq]; exact propext ⟨fun h => h, fun h => h⟩
theorem q_isi_b_str (b : Bool) (c : Be) (P E : D → Be → Prop) : (Eo.opt (gIsi [.bl b, .ty "str"]) c).af P E = P (.bl false) c := by rw [Eo.af_eq]; exact propext ⟨fun h => h, fun h => h⟩
theorem q_isi_i_int (i : Int) (c : Be) (P E : D → Be → Prop) : (Eo.opt (gIsi [.int i, .ty "int"]) c).af P E = P (.bl true) c := by rw [Eo.af_eq]; exact propext ⟨fun h => h, fun h => h⟩
theorem q_isi_i_bool (i : Int) (c : Be) (P E : D → Be → Prop) : (Eo.opt (gIsi [.int i, .ty "bool"]) c).af P E = P (.bl false) c := by rw [Eo.af_eq]; exact propext ⟨fun h => h, fun h => h⟩
theorem q_isi_i_tuple (i : Int) (c : Be) (P E : D → Be → Prop) : (Eo.opt (gIsi [.int i, .ty "tuple"]) c).af P E = P (.bl false) c := by rw [Eo.af_eq]; exact propext ⟨fun h => h, fun h => h⟩
theorem q_isi_i_list (i : Int) (c : Be) (P E : D → Be → Prop) : (Eo.opt (gIsi [.int i, .ty "list"]) c).af P E = P (.bl false) c := by rw [Eo.af_eq]; exact propext ⟨fun h => h, fun h => h⟩
theorem q_isi_i_str (i : Int) (c : Be) (P E : D → Be → Prop) : (Eo.opt (gIsi [.int i, .ty "str"]) c).af P E = P (.bl false) c := by rw [Eo.af_eq]; exact propext ⟨fun h => h, fun h => h⟩
theorem q_isi_s_int (x : Str) (c : Be) (P E : D → Be → Prop) : (Eo.opt (gIsi [.str x, .ty "int"]) c).af P E = P (.bl false) c := by rw [Eo.af_eq]; exact propext ⟨fun h => h, fun h => h⟩
theorem q_isi_s_bool (x : Str) (c : Be) (P E : D → Be → Prop) : (Eo.opt (gIsi [.str x, .ty "bool"]) c).af P E = P (.bl false) c := by rw [Eo.af_eq]; exact propext ⟨fun h => h, fun h => h⟩
theorem q_isi_s_tuple (x : Str) (c : Be) (P E : D → Be → Prop) : (Eo.opt (gIsi [.str x, .ty "tuple"]) c).af P E = P (.bl false) c := by rw [Eo.af_eq]; exact propext ⟨fun h => h, fun h => h⟩
theorem q_isi_s_list (x : Str) (c : Be) (P E : D → Be → Prop) : (Eo.opt (gIsi [.str x, .ty "list"]) c).af P E = P (.bl false) c := by rw [Eo.af_eq]; exact propext ⟨fun h => h, fun h => h⟩
theorem q_isi_s_str (x : Str) (c : Be) (P E : D → Be → Prop) : (Eo.opt (gIsi [.str x, .ty "str"]) c).af P E = P (.bl true) c := by rw [Eo.af_eq]; exact propext ⟨fun h => h, fun h => h⟩
theorem q_isi_l_int (ds : List D) (c : Be) (P E : D → Be → Prop) : (Eo.opt (gIsi [.lst ds, .ty "int"]) c).af P E = P (.bl false) c := by rw [Eo.af_eq]; exact propext ⟨fun h => h, fun h => h⟩
theorem q_isi_l_bool (ds : List D) (c : Be) (P E : D → Be → Prop) : (Eo.opt (gIsi [.lst ds, .ty "bool"]) c).af P E = P (.bl false) c := by rw [Eo.af_eq]; exact propext ⟨fun h => h, fun h => h⟩
theorem q_isi_l_tuple (ds : List D) (c : Be) (P E : D → Be → Prop) : (Eo.opt (gIsi [.lst ds, .ty "tuple"]) c).af P E = P (.bl false) c := by rw [Eo.af_eq]; exact propext ⟨fun h => h, fun h => h⟩
theorem q_isi_l_list (ds : List D) (c : Be) (P E : D → Be → Prop) : (Eo.opt (gIsi [.lst ds, .ty "list"]) c).af P E = P (.bl true) c := by rw [Eo.af_eq]; exact propext ⟨fun h => h, fun h => h⟩
theorem q_isi_l_str (ds : List D) (c : Be) (P E : D → Be → Prop) : (Eo.opt (gIsi [.lst ds, .ty "str"]) c).af P E = P (.bl false) c := by rw [Eo.af_eq]; exact propext ⟨fun h => h, fun h => h⟩
theorem q_isi_t_int (ds : List D) (c : Be) (P E : D → Be → Prop) : (Eo.opt (gIsi [.tup ds, .ty "int"]) c).af P E = P (.bl false) c := by rw [Eo.af_eq]; exact propext ⟨fun h => h, fun h => h⟩
theorem q_isi_t_bool (ds : List D) (c : Be) (P E : D → Be → Prop) : (Eo.opt (gIsi [.tup ds, .ty "bool"]) c).af P E = P (.bl false) c := by rw [Eo.af_eq]; exact propext ⟨fun h => h, fun h => h⟩
theorem q_isi_t_tuple (ds : List D) (c : Be) (P E : D → Be → Prop) : (Eo.opt (gIsi [.tup ds, .ty "tuple"]) c).af P E = P (.bl true) c := by rw [Eo.af_eq]; exact propext ⟨fun h => h, fun h => h⟩
theorem q_isi_t_list (ds : List D) (c : Be) (P E : D → Be → Prop) : (Eo.opt (gIsi [.tup ds, .ty "list"]) c).af P E = P (.bl false) c := by rw [Eo.af_eq]; exact propext ⟨fun h => h, fun h => h⟩
theorem q_isi_t_str (ds : List D) (c : Be) (P E : D → Be → Prop) : (Eo.opt (gIsi [.tup ds, .ty "str"]) c).af P E = P (.bl false) c := by rw [Eo.af_eq]; exact propext ⟨fun h => h, fun h => h⟩
theorem q_isi_p_int (p : Pt) (c : Be) (P E : D → Be → Prop) : (Eo.opt (gIsi [pr p, .ty "int"]) c).af P E = P (.bl false) c := by rw [Eo.af_eq]; exact propext ⟨fun h => h, fun h => h⟩
theorem q_isi_p_bool (p : Pt) (c : Be) (P E : D → Be → Prop) : (Eo.opt (gIsi [pr p, .ty "bool"]) c).af P E = P (.bl false) c := by rw [Eo.af_eq]; exact propext ⟨fun h => h, fun h => h⟩
theorem q_isi_p_tuple (p : Pt) (c : Be) (P E : D → Be → Prop) : (Eo.opt (gIsi [pr p, .ty "tuple"]) c).af P E = P (.bl true) c := by rw [Eo.af_eq]; exact propext ⟨fun h => h, fun h => h⟩
theorem q_isi_p_list (p : Pt) (c : Be) (P E : D → Be → Prop) : (Eo.opt (gIsi [pr p, .ty "list"]) c).af P E = P (.bl false) c := by rw [Eo.af_eq]; exact propext ⟨fun h => h, fun h => h⟩
theorem q_isi_p_str (p : Pt) (c : Be) (P E : D → Be → Prop) : (Eo.opt (gIsi [pr p, .ty "str"]) c).af P E = P (.bl false) c := by rw [Eo.af_eq]; exact propext ⟨fun h => h, fun h => h⟩
def Bd (p : Pt) : Prop := -1000000000000000000000000000000 ≤ p.1 ∧ p.1 ≤ 1000000000000000000000000000000 ∧ -1000000000000000000000000000000 ≤ p.2 ∧ p.2 ≤ 1000000000000000000000000000000
instance (p q : Pt) : Decidable (plt p q) := by unfold plt; exact inferInstance
theorem lex_plt {a b : Pt} : HT.lexLt [a.1, a.2] [b.1, b.2] = decide (plt a b) := by
  rw [Bool.eq_iff_iff, decide_eq_true_iff]
  unfold plt
  unfold HT.lexLt HT.lexLt HT.lexLt
  by_cases h : a.1 = b.1
  · by_cases h2 : a.2 = b.2
    · rw [if_pos h, if_pos h2]
      constructor
      · intro z; cases z
      · intro z; omega
    · rw [if_pos h, if_neg h2, decide_eq_true_iff]
      omega
  · rw [if_neg h, decide_eq_true_iff]
    omega
theorem ltA_pr (a b : Pt) : gLtA (pr a) (pr b) = some (.bl (decide (plt a b))) := by
  show some (D.bl (HT.lexLt [a.1, a.2] [b.1, b.2])) = _
  rw [lex_plt]
/-- a fence's corners -/
structure Cor (cs : List Pt) : Prop where
  good : Good cs
  few : cs.length ≤ 10
  bd : ∀ x ∈ cs, Bd x
theorem Cor.pos {cs : List Pt} (h : Cor cs) : 0 < cs.length := by
  rcases h.good with ⟨p, e⟩ | ⟨a, b, e, _⟩ | ⟨h, _⟩
  · rw [e]; simp
  · rw [e]; simp
  · omega
theorem eqD_unit : gEqD (.tup []) (.tup []) = some (.bl true) := rfl
theorem neD_unit : gNeD (.tup []) (.tup []) = some (.bl false) := rfl
theorem q_neP (p q : Pt) (c : Be) (P E : D → Be → Prop) : (Eo.opt (gNeA (pr p) (pr q)) c).af P E = P (.bl (!decide (p = q))) c := by show (Eo.opt (gNeD (pr p) (pr q)) c).af P E = _; rw [neD_pr, q_opt]
theorem q_eqP (p q : Pt) (c : Be) (P E : D → Be → Prop) : (Eo.opt (gEqA (pr p) (pr q)) c).af P E = P (.bl (decide (p = q))) c := by show (Eo.opt (gEqD (pr p) (pr q)) c).af P E = _; rw [eqD_pr, q_opt]
theorem q_neL (p q : List Pt) (c : Be) (P E : D → Be → Prop) : (Eo.opt (gNeA (.lst (prs p)) (.lst (prs q))) c).af P E = P (.bl (!decide (p = q))) c := by show (Eo.opt (gNeD (.lst (prs p)) (.lst (prs q))) c).af P E = _; rw [neD_prs, q_opt]
theorem q_eqL (p q : List Pt) (c : Be) (P E : D → Be → Prop) : (Eo.opt (gEqA (.lst (prs p)) (.lst (prs q))) c).af P E = P (.bl (decide (p = q))) c := by show (Eo.opt (gEqD (.lst (prs p)) (.lst (prs q))) c).af P E = _; rw [eqD_prs, q_opt]
theorem q_neU  (c : Be) (P E : D → Be → Prop) : (Eo.opt (gNeA (.tup []) (.tup [])) c).af P E = P (.bl false) c := by show (Eo.opt (gNeD (.tup []) (.tup [])) c).af P E = _; rw [neD_unit, q_opt]
theorem q_eqU  (c : Be) (P E : D → Be → Prop) : (Eo.opt (gEqA (.tup []) (.tup [])) c).af P E = P (.bl true) c := by show (Eo.opt (gEqD (.tup []) (.tup [])) c).af P E = _; rw [eqD_unit, q_opt]
theorem q_ltP (p q : Pt) (c : Be) (P E : D → Be → Prop) : (Eo.opt (gLtA (pr p) (pr q)) c).af P E = P (.bl (decide (plt p q))) c := by show (Eo.opt (gLtA (pr p) (pr q)) c).af P E = _; rw [ltA_pr p q, q_opt]
end GX
namespace GX
open PySem PySem.Spec PyProof.Rows L2
/-- points within n -/
def Bg (n : Nat) (p : Pt) : Prop := p.1.natAbs ≤ n ∧ p.2.natAbs ≤ n
theorem Bg.mono {n m : Nat} {p : Pt} (h : Bg n p) (k : n ≤ m) : Bg m p := ⟨Nat.le_trans h.1 k, Nat.le_trans h.2 k⟩
theorem Bg.bd {p : Pt} (h : Bg 1000000000000000000000000000000 p) : Bd p := by unfold Bg at h; unfold Bd; omega
end GX
namespace GX
open PySem PySem.Spec PyProof.Rows L2
end GX
namespace GX
open PySem PySem.Spec PyProof.Rows L2
end GX
namespace GX
open PySem PySem.Spec PyProof.Rows L2
section
variable {X : Cx} {pins : List (Addr × Obj)} {σ : L2.St} {H : Hp} {s sI s' : Shared} {a C : Addr} {d : Option Addr} {B h4 : Heap}
end
section
variable {X : Cx} {x n : Str} {c : Value} {i : Nat} {body suite : List Stmt} {b₀ : Stmt} {np pos pos' : Pos} {tb : WX → TS} {ts : TS} {Wout : WX}
end
end GX
namespace GX
open PySem PySem.Spec PyProof.Rows L2
section
variable {X : Cx} {Z : WX} {e : Expr} {m : ME} {pos p : Pos} {C : Str}
end
def excB (K : PySem.W.Frag) (Ca : Addr) : Bool := (PySem.W.clsIn K Ca).isSome && decide (PySem.W.findIn K (.ref Ca) "__getattribute__" = some (some (.builtin "BaseException.__getattribute__"))) && decide (PySem.W.findIn K (.ref Ca) "__getattr__" = some none) &&
  decide (PySem.W.subIn K (.ref Ca) (.type "BaseException") = some true) && PySem.W.hasDictIn K Ca && decide (PySem.W.findIn K (.ref Ca) "__class__" = some (some (.builtin "object.__class__"))) &&
  decide (PySem.W.specialIn K (.builtin "object.__class__") "__get__" = some (some (.builtin "getset_descriptor.__get__"))) && decide (PySem.W.takesIn K (.builtin "object.__class__") = some true) && decide (PySem.W.mroIn K Ca (.type "object") = some true)
section
variable {X : Cx} {Z : WX} {e : Expr} {m : ME} {pos p p1 p2 : Pos} {C : Str} {tab : Str → Str → Option Bool}
end
def So.suite (s : So) (i : Nat) : So := match s with
  | .nx r b => .nx (wipeR r [i]) b
  | .bk r b => .bk (wipeR r [i]) b
  | .ct r b => .ct (wipeR r [i]) b
  | .rt d b => .rt d b
  | .ex _ _ _ => .no
  | .no => .no
theorem upd_msk {H : Hp} {N : Addr → Prop} {a : Addr} {o : HO} (al : ∀ b, N b → ∃ o, H b = some o) (na : H a = none) : msk N (upd H a o) a = some o := by
  rw [msk_of (fun h => by obtain ⟨o', q⟩ := al a h; rw [na] at q; cases q), upd_same]
section
variable {X : Cx} {Z : WX} {x n : Str} {c : Value} {i : Nat} {body suite : List Stmt} {b₀ : Stmt} {np pos pos' : Pos} {mb ms : MS} {sup : Str → Option Bool}
end
end GX
namespace GX
open PySem PySem.Spec PyProof.Rows L2
section
variable {X : Cx} {B f : Str} {e : Expr} {es : List Expr} {ta : TA} {p1 p2 pos : Pos}
end
section
variable {X : Cx} {Z : WX} {C f : Str} {e : Expr} {m : ME} {p pos : Pos}
end
abbrev AlY : Type := He.AlD × Bool
def obsY (n : Nat) (fa : List He.Fa) (fn : List He.DefD) (ex : PySem.W.Frag → Bool) (g : Addr → Option Obj) : AlY := (He.obsD fa fn (He.frG g (cStatics :: sysModules :: He.asD g n)), ex (He.frG g (cStatics :: sysModules :: He.asD g n)))
structure SaysY (fa : List He.Fa) (fn : List He.DefD) (ex : PySem.W.Frag → Bool) (K : PySem.W.Frag) : Prop where
  d : He.SaysD fa fn K
  more : ex K = true
def hookY (n : Nat) (fa : List He.Fa) (fn : List He.DefD) (ex : PySem.W.Frag → Bool) : PySem.W.Hook where
  α := AlY
  obs := fun s => obsY n fa fn ex s.heap.get?
  val := fun _ => (He.valD fn, true)
  says := fun _ h => ∃ K : PySem.W.Frag, K.In h ∧ SaysY fa fn ex K
  of := fun _ _ e => ⟨_, He.frG_in, ⟨congrArg (fun z : AlY => z.1) e, congrArg (fun z : AlY => z.2) e⟩⟩
  keeps := fun _ _ _ ⟨K, hK, c⟩ k => ⟨K, PySem.W.Frag.In.keeps hK k, c⟩
theorem obsY_eq {n : Nat} {fa : List He.Fa} {fn : List He.DefD} {ex : PySem.W.Frag → Bool} {g : Addr → Option Obj} {s : Shared} (h : ∀ a, g a = s.heap.get? a) : obsY n fa fn ex g = (hookY n fa fn ex).obs s := by
  have e : g = s.heap.get? := funext h
  rw [e] <;> rfl
/-- facts of errors -/
inductive Fx where
  | isx (C : Str)
  | fld (C f : Str)
  | kit (E C : Str) (b : Bool)
  | kitT (E : Str) (T : String) (b : Bool)
  | exm (E C : Str) (b : Bool)
  | base (B : Str)
  | oex (C f : Str)
  | sys
  deriving DecidableEq
def clB (K : PySem.W.Frag) (Ca : Addr) : Bool := (match K.lookup Ca with
  | some ⟨.type t, dd, .cls cd, sl⟩ => decide (t = "type") && (match cd.mro with
    | .ref C' :: bm => decide (C' = Ca) && PySem.HandSPX.refsVE bm
    | _ => false) && cd.hasDict && !cd.hasDel && (match sl.toList with
      | [k0, k1, k2, k3, some (.builtin n), k5] => decide (n = "ValueError.__new__")
      | _ => false)
  | _ => false)
def Fx.ok (K : PySem.W.Frag) : Fx → Bool
  | .isx C => excB K (He.ga K C)
  | .sys => (match K.lookup sysModules with
    | some o => decide (o.cls = .type "dict")
    | none => false)
  | .fld C f => decide (PySem.W.findIn K (.ref (He.ga K C)) f = some none)
  | .kit E C b => decide (PySem.W.kitOne K (.ref (He.ga K E)) (.ref (He.ga K C)) = some b)
  | .kitT E T b => decide (PySem.W.kitOne K (.ref (He.ga K E)) (.type T) = some b)
  | .exm E C b => decide (PySem.W.exmOne K (.ref (He.ga K E)) (.ref (He.ga K C)) = some b)
  | .base B => PySem.W.readsIn K (He.ga K B) (.type "type") && (match PySem.W.findCls K (.ref (He.ga K B)) (.type "type") "__init__" with
    | some (.val (.builtin i)) => decide (i = "ValueError.__init__")
    | _ => false) && decide (PySem.W.specialIn K (.ref (He.ga K B)) "__getattribute__" = some (some (.builtin "type.__getattribute__")))
  | .oex C f => clB K (He.ga K C) && decide (PySem.W.findIn K (.ref (He.ga K C)) "__setattr__" = some (some (.builtin "object.__setattr__"))) && decide (PySem.W.subIn K (.ref (He.ga K C)) (.type "BaseException") = some true) &&
    decide (PySem.W.typeIn K (.ref (He.ga K C)) = some (.type "type")) && PySem.W.keepIn K (.ref (He.ga K C)) && decide (PySem.W.findIn K (.ref (He.ga K C)) f = some none) &&
    decide (PySem.W.findIn K (.ref (He.ga K C)) "__init__" = some (some (.ref (He.ma K (He.ga K C) "__init__")))) && decide (PySem.W.typeIn K (.ref (He.ma K (He.ga K C) "__init__")) = some (.type "function"))
section
variable {K : PySem.W.Frag} {mg : Str → Option Value} {C f B : Str}
end
end GX
namespace GX
open PySem PySem.Spec PyProof.Rows L2
section
variable {X : Cx} {Z : WX} {e a b : Expr} {m ma mb : ME} {pos p p1 p2 : Pos}
end
section
variable {X : Cx} {pins : List (Addr × Obj)} {σ : L2.St} {H : Hp} {s : Shared}
end
section
variable {X : Cx} {Z : WX} {e a b : Expr} {m ma mb : ME} {ml mh : MO} {lo hi : Option Expr} {pos p p1 p2 : Pos}
theorem tup_new {K : En} {W : Wd} {O : Addr → Prop} {σ : L2.St} {H : Hp} {ρ : Rho} {c : Be} {q : Addr} {vs : List V} {ds : List D} (S : Stt K W O σ H ρ c) (hq : H q = none) (h : DvAll K (msk (W.N O) H) vs ds) : Dv K (msk (W.N O) (upd H q (.tup vs))) (.ref q) (.tup ds) :=
  .tup (SqT.of (upd_msk S.al hq)) (h.up (msk_mono (upd_le hq)))
end
end GX
namespace GX
open PySem PySem.Spec PyProof.Rows L2
def D.flat : D → Bool
  | .non | .bl _ | .int _ | .str _ => true
  | _ => false
section
variable {X : Cx} {Z : WX} {k j i : Nat} {ps : List Str} {x : Str} {p pos p2 : Pos} {e : Expr} {es : List Expr} {m : MA} {me mi : ME} {F : FP} {st : Stmt}
end
def gStr : GL := fun ds => match ds with
  | [.str x] => some (.str x)
  | [.non] => some (.str "None")
  | [.int i] => if i.natAbs.log2 < 1920 then some (.str (toString i)) else none
  | _ => none
def rStr : List V → Hp → VK → Prop := fun xs H Q => (∃ x, xs = [.str x] ∧ Q (.str x) H) ∨ (xs = [.non] ∧ Q (.str "None") H) ∨ ∃ i, xs = [.int i] ∧ i.natAbs.log2 < 1920 ∧ Q (.str (toString i)) H
theorem call_strA {X : Cx} : CallR X (.type "str") rStr := by
  intro pins s σ H xs us Q I r h
  rcases h with ⟨x, rfl, q⟩ | ⟨rfl, q⟩ | h
  · exact SkE.call_str_str pins s σ H _ us Q I r ⟨x, rfl, q⟩
  · obtain ⟨u, rfl, ru⟩ := vals1 r
    cases ru
    exact PySem.P.str_of_none ⟨.str "None", H, I.tok _, ⟨_, rfl⟩, q⟩
  · exact call_str_int pins s σ H xs us Q I r h
theorem rd_str {K : En} : RdCall K rStr gStr := fun W O H xs ds z Q _ h hg k => by
  unfold gStr at hg
  split at hg
  · cases hg
    obtain ⟨v, rfl, hv⟩ := va1 h
    refine .inl ⟨_, ?_, k _ H (Le.refl H) (.str _)⟩
    have := hv.dv
    cases this
    rfl
  · cases hg
    obtain ⟨v, rfl, hv⟩ := va1 h
    refine .inr (.inl ⟨?_, k _ H (Le.refl H) (.str _)⟩)
    have := hv.dv
    cases this
    rfl
  · split at hg
    · rename_i hl
      cases hg
      obtain ⟨v, rfl, hv⟩ := va1 h
      refine .inr (.inr ⟨_, ?_, hl, k _ H (Le.refl H) (.str _)⟩)
      have := hv.dv
      cases this
      rfl
    · cases hg
  · cases hg
section
variable {X : Cx} {Z : WX} {e : Expr} {es : List Expr} {m : ME} {pos p p1 : Pos} {Cs : List Str} {tab : Str → Str → Option Bool} {kk : Nat}
end
section
variable {X : Cx} {Z : WX} {x n : Str} {i : Nat} {body suite : List Stmt} {b₀ : Stmt} {np pos pos' : Pos} {mb ms : MS} {sup : Str → Option Bool}
end
end GX
namespace GX
open PySem PySem.Spec PyProof.Rows L2
/-- ancestors by class: each class of errors with all that isinstance says yes to -/
abbrev Anc := List (Str × List Str)
section
variable {K : PySem.W.Frag} {mg : Str → Option Value} {h : Heap} {fxs : List Fx}
abbrev AllFx (fxs : List Fx) (K : PySem.W.Frag) : Bool := fxs.all fun f => f.ok K
/-- every class of the table stands, with its facts -/
structure TabOk (A : Anc) (fxs : List Fx) (K : PySem.W.Frag) (mg : Str → Option Value) : Prop where
  gl : ∀ E ∈ A.map (·.1), mg E = some (.ref (He.ga K E)) ∧ Fx.isx E ∈ fxs
end
section
variable {P : Program} {w : World} {K : PySem.W.Frag} {mg : Str → Option Value} {base : Heap} {x qual : Str} {params : Arguments} {body : List Stmt} {scope : Scope} {f : Addr} {fd : FuncData} {N ps : List Str} {n : Str} {m : Str}
end
end GX
namespace GX
open PySem PySem.Spec PyProof.Rows L2
end GX
namespace GX
open PySem PySem.Spec PyProof.Rows L2
section
variable {X : Cx} {Z : WX} {e : Expr} {m : ME}
end
def strsD : List D → Option (List Str)
  | [] => some []
  | .str x :: r => (strsD r).map (x :: ·)
  | _ => none
def gJoin (a : Str) : G1 := fun d => match d with
  | .lst ds => match strsD ds with
    | some ys => if (ys.map (·.length)).sum + ys.length * a.length ≤ 16777216 then some (.str (Txt.join a ys)) else none
    | none => none
  | _ => none
theorem strs_v {K : En} {H : Hp} : ∀ {ds : List D} {vs : List V} {ys : List Str}, DvAll K H vs ds → strsD ds = some ys → vs = ys.map V.str
  | [], _, ys, h, e => by
    cases h
    cases e
    rfl
  | d :: ds, _, ys, h, e => by
    cases h with
    | cons h1 h2 =>
      cases d with
      | str x =>
        simp only [strsD, Option.map_eq_some_iff] at e
        obtain ⟨zs, e1, rfl⟩ := e
        cases h1
        rw [strs_v h2 e1]
        rfl
      | _ => cases e
section
variable {X : Cx} {Z : WX} {o e : Expr} {m : ME} {a : Str} {apos pos : Pos}
theorem e_join (ho : PE X o (rdE X.en Z (mC (.str a)))) (he : PE X e (rdV X.en Z m)) (hs : starEach [e] X.env = [(false, eval e X.env)] := by rfl) (hbase : attributeBase o "join" X.env (eval o X.env) = eval o X.env := by rfl) (hline : (apos.endLine == pos.line) = true := by rfl) :
    PE X (.Call (.Attribute o "join" apos) [e] [] pos) (rdE X.en Z (mUn (gJoin a) m)) := (pe_join ho he hs hbase hline).imp fun σ H Q ⟨W, O, ρ, c, P, E, S, hm, kk, kx⟩ => by
  refine ⟨W, O, ρ, c, (fun d c1 => d = .str a ∧ c1 = c), E, S, ⟨rfl, rfl⟩, fun d c1 v H1 ⟨e1, e2⟩ l1 S1 r1 => ?_, kx⟩
  subst e1
  subst e2
  cases r1
  refine ⟨⟨_, rfl⟩, W, O, ρ, c1, _, E, S1, (Eo.aft_bind ..).mp hm, fun z c2 u H2 hm2 l2 S2 r2 => ?_, kx.later l1⟩
  obtain ⟨w, ew, pw⟩ := opt_some hm2
  unfold gJoin at ew
  split at ew
  · split at ew
    · rename_i ys es
      split at ew
      · rename_i hle
        cases ew
        obtain ⟨p, vs, ev, hs, hv⟩ := r2.list
        have := strs_v hv es
        subst this
        exact ⟨a, p, ys, rfl, by rw [ev], .inl hs, hle, kk _ c2 _ H2 pw (l1.trans l2) S2 (.str _)⟩
      · cases ew
    · cases ew
  · cases ew
end
/-- an item of a text -/
def gIxS : G2 := fun d e => match d, e with
  | .str z, .int i => if z.length ≤ sizeLine then (L2.atI z.cps.toList i).map fun c => .str ⟨#[c]⟩ else none
  | _, _ => none
theorem rd_ixS {K : En} : RdOp K L2.rIxS gIxS := fun W O H x y d e z Q _ hx hy hg k => by
  unfold gIxS at hg
  split at hg
  · split at hg
    · rename_i hl
      rw [Option.map_eq_some_iff] at hg
      obtain ⟨c, hc, rfl⟩ := hg
      rcases hx with hx | ⟨_, _, _, h1, _⟩
      · cases hx
        exact ⟨_, _, c, rfl, hy.int, hl, hc, k _ H (Le.refl H) (.str _)⟩
      · cases h1
    · cases hg
  · cases hg
end GX
namespace PySem
namespace HandSPX
open Builtin Builtin.ObjectAttr
section
variable {prog : Program} {w : World} {M : Model} {A : Around} {E : Value → Shared → Prop} {R : Result → Shared → Prop} {s : Shared} {C fI : Addr} {B newId initId : String} {base : List Value} {kw : List (Str × Value)}
end
end HandSPX
end PySem
namespace GX
open PySem PySem.Spec PyProof.Rows L2
section
variable {X : Cx} {Z : WX} {C f : Str} {e : Expr} {m : ME} {p pos kpos : Pos}
end
section
variable {K : PySem.W.Frag} {mg : Str → Option Value} {fxs : List Fx}
end
end GX
namespace GX
open PySem PySem.Spec PyProof.Rows L2
def toStr : D → Option Str
  | .str x => some x
  | _ => none
theorem toStr_some {d : D} {x : Str} (h : toStr d = some x) : d = .str x := by
  cases d <;> simp [toStr] at h
  subst h; rfl
def mCutS (m : ME) (ml mh : MO) : ME := fun ρ c => (m ρ c).bind fun d c1 => (ml ρ c1).bind fun l c2 => (mh ρ c2).bind fun h c3 => Eo.opt (match d with
  | .str z => if z.length ≤ sizeLine then some (.str (cutS z l h)) else none
  | _ => none) c3
section
variable {X : Cx} {Z : WX} {e a b : Expr} {m ma mb : ME} {ml mh : MO} {lo hi : Option Expr} {pos p p1 p2 apos : Pos}
theorem e_cutS (h : PE X a (rdE X.en Z ma)) (hl : PO X lo (rdO X.en Z ml)) (hh : PO X hi (rdO X.en Z mh)) : PE X (.Subscript a (.Slice lo hi none p2) pos) (rdE X.en Z (mCutS ma ml mh)) := (pe_slice sl_str h hl hh).imp fun σ H Q ⟨W, O, ρ, c, P, E, S, hm, k, kx⟩ =>
  ⟨W, O, ρ, c, _, E, S, (Eo.aft_bind ..).mp hm, fun d c1 v H1 p1 l1 S1 r1 => ⟨W, O, ρ, c1, _, E, S1, (Eo.aft_bind ..).mp p1, fun l c2 H2 p2 l2 S2 => ⟨W, O, ρ, c2, _, E, S2, (Eo.aft_bind ..).mp p2, fun h c3 H3 p3 l3 S3 => by
    obtain ⟨w, ed, p4⟩ := opt_some p3
    split at ed
    · split at ed
      · rename_i z hz
        cases ed
        cases r1
        exact ⟨z, rfl, hz, k _ c3 _ H3 p4 ((l1.trans l2).trans l3) S3 (.str _)⟩
      · cases ed
    · exact (nomatch ed), kx.later (l1.trans l2)⟩, kx.later l1⟩, kx⟩
def gFmt : G1 := fun d => match d with
  | .str y => if y.length ≤ sizeLine then some (.str y) else none
  | .int i => if i.natAbs.log2 < 1920 then some (.str (toString i)) else none
  | _ => none
theorem e_fmt (h : PE X e (rdE X.en Z m)) : PE X (.FormattedValue e (-1) none pos) (rdE X.en Z (mUn gFmt m)) := (pe_fmt h).imp fun σ H Q ⟨W, O, ρ, c, P, E, S, hm, k, kx⟩ =>
  ⟨W, O, ρ, c, _, E, S, (Eo.aft_bind ..).mp hm, fun d c1 v H1 p1 l1 S1 r1 => by
    obtain ⟨w, ed, p4⟩ := opt_some p1
    unfold gFmt at ed
    split at ed
    · split at ed
      · rename_i y hy
        cases ed
        cases r1
        exact .inl ⟨y, rfl, hy, k _ c1 _ H1 p4 l1 S1 (.str _)⟩
      · cases ed
    · split at ed
      · rename_i i hi
        cases ed
        cases r1
        exact .inr ⟨i, rfl, hi, k _ c1 _ H1 p4 l1 S1 (.str _)⟩
      · cases ed
    · exact (nomatch ed), kx⟩
abbrev MJ := Str → ME
def mJ0 : MJ := fun acc => mC (.str acc)
def mJ1 (m : ME) (k : MJ) : MJ := fun acc ρ c => (m ρ c).bind fun d c1 => match d with
  | .str y => if (acc ++ y).length ≤ sizeLine then k (acc ++ y) ρ c1 else .no
  | _ => .no
def JJ (X : Cx) (Z : WX) (es : List Expr) (k : MJ) : Prop := ∃ ts, PJ X es ts ∧ ∀ acc σ H Q, rdE X.en Z (k acc) σ H Q → tJs ts acc σ H fun out H1 => Q (.str out) H1
theorem j_nil : JJ X Z [] mJ0 := ⟨[], .nil, fun acc σ H Q ⟨W, O, ρ, c, P, E, S, hm, k, kx⟩ => k _ c _ H hm LeX.refl S (.str _)⟩
theorem j_cons {es : List Expr} {k : MJ} (h : PE X e (rdE X.en Z m)) (r : JJ X Z es k) : JJ X Z (e :: es) (mJ1 m k) := by
  obtain ⟨ts, h1, h2⟩ := r
  refine ⟨_ :: ts, .cons h h1, fun acc σ H Q ⟨W, O, ρ, c, P, E, S, hm, kk, kx⟩ => ?_⟩
  refine ⟨W, O, ρ, c, _, E, S, (Eo.aft_bind ..).mp hm, fun d c1 v H1 p1 l1 S1 r1 => ?_, kx⟩
  split at p1
  · split at p1
    · rename_i y hy
      cases r1
      exact ⟨y, rfl, hy, h2 _ σ H1 Q ⟨W, O, ρ, c1, P, E, S1, p1, fun d c' v H' q l2 S2 r2 => kk d c' v H' q (l1.trans l2) S2 r2, kx.later l1⟩⟩
    · exact p1.elim
  · exact p1.elim
theorem e_fstr {e1 e2 : Expr} {es : List Expr} {k : MJ} (h : JJ X Z (e1 :: e2 :: es) k) : PE X (.JoinedStr (e1 :: e2 :: es) pos) (rdE X.en Z (k Str.empty)) := by
  obtain ⟨ts, h1, h2⟩ := h
  exact (pe_joined h1).imp fun σ H Q q => h2 _ σ H Q q
def gSplit (b : Str) : G1 := fun d => match d with
  | .str a => if (b.length == 0) = false ∧ a.length + 2 ≤ sizeLine then some (.lst ((Txt.split a b).map D.str)) else none
  | _ => none
def gPart (b : Str) : G1 := fun d => match d with
  | .str a => if (b.length == 0) = false ∧ a.length ≤ sizeLine then some (.tup [.str (Txt.partition a b).1, .str (Txt.partition a b).2.1, .str (Txt.partition a b).2.2]) else none
  | _ => none
theorem strs_dv {K : En} {H : Hp} : ∀ ys : List Str, DvAll K H (ys.map V.str) (ys.map D.str)
  | [] => .nil
  | y :: ys => .cons (.str y) (strs_dv ys)
theorem e_split {x : Str} {j : _} {cp : Pos} (h : PE X a (rdE X.en Z m)) (hbase : attributeBase a "split" X.env (eval a X.env) = eval a X.env := by rfl) (hline : (apos.endLine == pos.line) = true := by rfl) (hs : starEach [.Constant (.str x) j cp] X.env = [(false, eval (.Constant (.str x) j cp) X.env)] := by rfl) :
    PE X (.Call (.Attribute a "split" apos) [.Constant (.str x) j cp] [] pos) (rdE X.en Z (mUn (gSplit x) m)) := (pe_split h (pe_str (x := x)) hs hbase hline).imp fun σ H Q ⟨W, O, ρ, c, P, E, S, hm, k, kx⟩ =>
  ⟨W, O, ρ, c, _, E, S, (Eo.aft_bind ..).mp hm, fun d c1 v H1 p1 l1 S1 r1 => by
    obtain ⟨w, ed, p4⟩ := opt_some p1
    unfold gSplit at ed
    split at ed
    · split at ed
      · rename_i y hy
        cases ed
        cases r1
        refine ⟨⟨_, rfl⟩, y, x, rfl, rfl, hy.1, hy.2, fun q hq => ?_⟩
        exact k _ c1 _ _ p4 (l1.trans (upd_le hq).x) (S1.up (upd_le hq)) (.lst (.inl (.inl (upd_msk S1.al hq))) (strs_dv _))
      · cases ed
    · exact (nomatch ed), kx⟩
theorem e_part {x : Str} {j : _} {cp : Pos} (h : PE X a (rdE X.en Z m)) (hbase : attributeBase a "partition" X.env (eval a X.env) = eval a X.env := by rfl) (hline : (apos.endLine == pos.line) = true := by rfl) (hs : starEach [.Constant (.str x) j cp] X.env = [(false, eval (.Constant (.str x) j cp) X.env)] := by rfl) :
    PE X (.Call (.Attribute a "partition" apos) [.Constant (.str x) j cp] [] pos) (rdE X.en Z (mUn (gPart x) m)) := (pe_partition h (pe_str (x := x)) hs hbase hline).imp fun σ H Q ⟨W, O, ρ, c, P, E, S, hm, k, kx⟩ =>
  ⟨W, O, ρ, c, _, E, S, (Eo.aft_bind ..).mp hm, fun d c1 v H1 p1 l1 S1 r1 => by
    obtain ⟨w, ed, p4⟩ := opt_some p1
    unfold gPart at ed
    split at ed
    · split at ed
      · rename_i y hy
        cases ed
        cases r1
        refine ⟨⟨_, rfl⟩, y, x, rfl, rfl, hy.1, hy.2, fun q hq => ?_⟩
        exact k _ c1 _ _ p4 (l1.trans (upd_le hq).x) (S1.up (upd_le hq)) (tup_new S1 hq (.cons (.str _) (.cons (.str _) (.cons (.str _) .nil))))
      · cases ed
    · exact (nomatch ed), kx⟩
end
def gIntS : GL := fun ds => match ds with
  | [.str a] => match PySem.intText? a with
    | some n => if a.length ≤ 640 then some (.int n) else none
    | none => none
  | _ => none
def gInS : G2 := fun d e => match d, e with
  | .str x, .str z => match x.cps.toList with
    | [c] => some (.bl (decide (c ∈ z.cps.toList)))
    | _ => none
  | _, _ => none
end GX
namespace GX
open PySem PySem.Spec PyProof.Rows L2
def signs (x : Str) : List D := x.cps.toList.map fun c => D.str ⟨#[c]⟩
def iStrM (m : ME) : MI := fun ρ c => (m ρ c).bind fun d c' => .opt ((toStr d).map signs) c'
theorem yl_str {K : En} {G : Hp} (x : Str) : Yl K G (Its x) (signs x) := fun N2 H2 al le => by
  have hl : (signs x).length = x.cps.size := by unfold signs; rw [List.length_map, Array.length_toList]
  refine ⟨fun i hi => by rw [hl] at hi; exact hi, by show x.cps.size ≤ (signs x).length; rw [hl]; exact Nat.le_refl _, fun i v H3 y hi => ?_⟩
  obtain ⟨e3, c, hc, ev⟩ := y
  subst e3; subst ev
  refine ⟨.str ⟨#[c]⟩, ?_, Le.refl _, .str _⟩
  unfold signs
  rw [List.getElem?_map, Array.getElem?_toList, hc]
  rfl
def toR3 : List D → Option (List D)
  | [.int i, .int j, .int c] => if c ≠ 0 ∧ c.natAbs < 1073741824 ∧ Builtin.Range.small i j c = true ∧ Builtin.Range.rangeSize i j c = ((Builtin.Range.rangeSize i j c).toNat : Nat) then some ((List.range (Builtin.Range.rangeSize i j c).toNat).map fun (k : Nat) => D.int (i + (k : Nat) * c)) else none
  | _ => none
def iR3 (m : MA) : MI := fun ρ c => (m ρ c).bind fun ds c' => .opt (toR3 ds) c'
theorem yl_rng3 {K : En} {G : Hp} (lo c : Int) (n : Nat) : Yl K G (Itc lo c n) ((List.range n).map fun (k : Nat) => D.int (lo + (k : Nat) * c)) := fun N2 H2 al le => by
  have hl : ((List.range n).map fun (k : Nat) => D.int (lo + (k : Nat) * c)).length = n := by rw [List.length_map, List.length_range]
  refine ⟨fun i hi => by rw [hl] at hi; exact hi, by show n ≤ _; rw [hl]; exact Nat.le_refl _, fun i x H3 y hi => ?_⟩
  obtain ⟨e3, e4⟩ := y
  subst e3; subst e4
  rw [hl] at hi
  refine ⟨.int (lo + (i : Nat) * c), ?_, Le.refl _, .int _⟩
  rw [List.getElem?_map, List.getElem?_range hi]
  rfl
section
variable {X : Cx} {Z : WX} {tg e : Expr} {me : ME} {ma : MA} {pos p : Pos}
theorem i_str (h : PI X tg e (iStr (rdE X.en Z me))) : PI X tg e (rdI X.en Z (iStrM me)) := h.imp fun σ H Q ⟨W, O, ρ, c, P, E, S, hm, k, kx⟩ =>
  ⟨W, O, ρ, c, _, E, S, (Eo.aft_bind ..).mp hm, fun d c1 v H1 p l S1 r => by
    obtain ⟨zs, ez, p2⟩ := opt_some p
    obtain ⟨x, ex, rfl⟩ := Option.map_eq_some_iff.mp ez
    have := toStr_some ex
    subst this
    cases r
    exact ⟨x, rfl, k _ c1 _ H1 p2 l S1 (yl_str _)⟩, kx⟩
theorem i_r3 (h : PI X tg e (iRng3 (rdA X.en Z ma))) : PI X tg e (rdI X.en Z (iR3 ma)) := h.imp fun σ H Q ⟨W, O, ρ, c, P, E, S, hm, k, kx⟩ =>
  ⟨W, O, ρ, c, _, E, S, (Eo.aft_bind ..).mp hm, fun ds c1 vs H1 p l S1 r => by
    obtain ⟨zs, ez, p2⟩ := opt_some p
    unfold toR3 at ez
    split at ez
    · split at ez
      · rename_i hj
        cases ez
        cases r with
        | cons r1 r2 =>
          cases r2 with
          | cons r2 r3 =>
            cases r3 with
            | cons r3 r4 =>
              cases r1; cases r2; cases r3; cases r4
              exact ⟨_, _, _, _, rfl, ⟨hj.1, hj.2.1, hj.2.2.1, hj.2.2.2⟩, k _ c1 _ H1 p2 l S1 (yl_rng3 _ _ _)⟩
      · exact nomatch ez
    · exact (nomatch ez), kx⟩
end
def rIntS : List V → Hp → VK → Prop := fun xs H Q => ∃ a n, xs = [.str a] ∧ PySem.intText? a = some n ∧ a.length ≤ 640 ∧ Q (.int n) H
theorem rd_intS {K : En} : RdCall K rIntS gIntS := fun W O H xs ds z Q _ hx hg k => by
  unfold gIntS at hg
  split at hg
  · rename_i a
    split at hg
    · rename_i n hn
      split at hg
      · rename_i hl
        cases hg
        cases xs with
        | nil => exact hx.elim
        | cons v vs =>
          cases vs with
          | cons u us => exact hx.2.elim
          | nil =>
            rcases hx.1 with h | ⟨_, _, _, h1, _⟩
            · cases h
              exact ⟨a, n, rfl, hn, hl, k _ H (Le.refl H) (.int _)⟩
            · exact nomatch h1
      · exact nomatch hg
    · exact nomatch hg
  · exact nomatch hg
def rInS : R2 := fun x y H Q => ∃ (c : Nat) (z : Str), x = .str ⟨#[c]⟩ ∧ y = .str z ∧ Q (.bl (decide (c ∈ z.cps.toList))) H
theorem rd_inS {K : En} : RdOp K rInS gInS := fun W O H x y d e z Q _ hx hy hg k => by
  unfold gInS at hg
  split at hg
  · rename_i a b
    split at hg
    · rename_i c hc
      cases hg
      rcases hx with h | ⟨_, _, _, h1, _⟩
      · rcases hy with h' | ⟨_, _, _, h1, _⟩
        · cases h
          cases h'
          have ea : a = ⟨#[c]⟩ := by
            cases a with
            | mk cps =>
              have : cps = #[c] := Array.toList_inj.mp hc
              rw [this]
          exact ⟨c, b, by rw [ea], rfl, k _ H (Le.refl H) (.bl _)⟩
        · exact nomatch h1
      · exact nomatch h1
    · exact nomatch hg
  · exact nomatch hg
def gLenS : GL := fun ds => match ds with
  | [.str z] => if z.length ≤ sizeLine then some (.int z.length) else none
  | _ => none
def rLenS : List V → Hp → VK → Prop := fun xs H Q => ∃ z, xs = [.str z] ∧ z.length ≤ sizeLine ∧ Q (.int z.length) H
theorem rd_lenS {K : En} : RdCall K rLenS gLenS := fun W O H xs ds z Q _ hx hg k => by
  unfold gLenS at hg
  split at hg
  · rename_i a
    split at hg
    · rename_i hl
      cases hg
      obtain ⟨v, rfl, h⟩ := va1 hx
      rcases h with h | ⟨_, _, _, h1, _⟩
      · cases h
        exact ⟨a, rfl, hl, k _ H (Le.refl H) (.int _)⟩
      · exact nomatch h1
    · exact nomatch hg
  · exact nomatch hg
end GX
namespace GX
open PySem PySem.Spec PyProof.Rows L2
section
variable {X : Cx} {Z : WX} {st : Stmt} {i j l : Nat} {r : MX}
theorem s_asgX3 (h : PS X st (tAsg (tTup (rdX X.en Z r)) (gTup X.K 3 (gCons (gName i) (gCons (gName j) (gCons (gName l) gNil)))))) : PS X st (rdS X.en Z (mParX3 i j l r)) := h.imp fun D σ H ⟨W, O, ρ, c, C, S, hm, R⟩ =>
  ⟨W, O, ρ, c, _, _, S, (So.aft_of ..).mp hm, fun ss c1 vs O' H1 p l' S1 sub new le xa ap => by
    match ss, p with
    | [s, t, u], p =>
      match vs, xa with
      | [v, w, x], xa =>
        obtain ⟨x1, x2, x3, _⟩ := xa
        have f1 : ∀ ds, s = .own ds → ∀ p, v = .ref p → Fr ρ σ p := SlOk.fr S x1
        have f2 : ∀ ds, t = .own ds → ∀ p, w = .ref p → Fr ρ σ p := SlOk.fr S x2
        have f3 : ∀ ds, u = .own ds → ∀ p, x = .ref p → Fr ρ σ p := SlOk.fr S x3
        have a12 : ∀ es, s = .own es → ∀ ds, t = .own ds → v ≠ w := fun es h ds h2 q => ap.1 es h 0 ds (by rw [h2]; rfl) (by rw [q]; rfl)
        have a13 : ∀ es, s = .own es → ∀ ds, u = .own ds → v ≠ x := fun es h ds h2 q => ap.1 es h 1 ds (by rw [h2]; rfl) (by rw [q]; rfl)
        have a23 : ∀ es, t = .own es → ∀ ds, u = .own ds → w ≠ x := fun es h ds h2 q => ap.2.1 es h 0 ds (by rw [h2]; rfl) (by rw [q]; rfl)
        have S2 := S1.sl (i := i) x1 fun q eq ⟨ds, ho⟩ k es _ => f1 ds ho q eq k es
        have S3 := S2.sl (i := j) x2 fun q eq ⟨ds, ho⟩ k es _ => (f2 ds ho q eq).set S.len (fun es h z => a12 es h ds ho (z.trans eq.symm)) k es
        have S4 := S3.sl (i := l) x3 fun q eq ⟨ds, ho⟩ k es _ => ((f3 ds ho q eq).set S.len (fun es h z => a13 es h ds ho (z.trans eq.symm))).set S2.len (fun es h z => a23 es h ds ho (z.trans eq.symm)) k es
        refine ⟨by show 3 ≤ sizeLine; rw [sizeLine_eq]; decide, fun q hq => ⟨q, [v, w, x], rfl, SqT.of upd_same, rfl, v, [w, x], rfl, w, [x], rfl, x, [], rfl, rfl, ?_⟩⟩
        exact R.nx O' _ c1 _ _ p (le.trans (msk_mono (upd_le hq))) (S4.up (upd_le hq)), fun e c' O' cls dx H' p l S' le x => R.ex e O' ρ c' σ H' cls dx p le S' x⟩
end
end GX
namespace GX
open PySem PySem.Spec PyProof.Rows L2
theorem qwv_16 (s0 s1 s2 s3 s4 s5 s6 s7 s8 s9 s10 s11 s12 s13 s14 s15 : Sl) (d : D) (r : Rho) (c : Be) (P : D → Be → Prop) (E : D → Be → Prop) : ((mVw 16 (s0 :: s1 :: s2 :: s3 :: s4 :: s5 :: s6 :: s7 :: s8 :: s9 :: s10 :: s11 :: s12 :: s13 :: s14 :: s15 :: (.val d) :: r) c).af P E) = (P d c) := by simp only [Eo.af_eq, Ro.af_eq, So.af_eq]; exact (propext ⟨fun h => h, fun h => h⟩)
theorem qwo_16 (s0 s1 s2 s3 s4 s5 s6 s7 s8 s9 s10 s11 s12 s13 s14 s15 : Sl) (ds : List D) (r : Rho) (c : Be) (P : D → Be → Prop) (E : D → Be → Prop) : ((mVw 16 (s0 :: s1 :: s2 :: s3 :: s4 :: s5 :: s6 :: s7 :: s8 :: s9 :: s10 :: s11 :: s12 :: s13 :: s14 :: s15 :: (.own ds) :: r) c).af P E) = (P (.lst ds) c) := by simp only [Eo.af_eq, Ro.af_eq, So.af_eq]; exact (propext ⟨fun h => h, fun h => h⟩)
theorem qx_16 (s0 s1 s2 s3 s4 s5 s6 s7 s8 s9 s10 s11 s12 s13 s14 s15 : Sl) (d : D) (r : Rho) (c : Be) (P : D → Be → Prop) (E : D → Be → Prop) : ((mVar 16 (s0 :: s1 :: s2 :: s3 :: s4 :: s5 :: s6 :: s7 :: s8 :: s9 :: s10 :: s11 :: s12 :: s13 :: s14 :: s15 :: (.val d) :: r) c).af P E) = (P d c) := by simp only [Eo.af_eq, Ro.af_eq, So.af_eq]; exact (propext ⟨fun h => h, fun h => h⟩)
theorem qapp_16 (s0 s1 s2 s3 s4 s5 s6 s7 s8 s9 s10 s11 s12 s13 s14 s15 : Sl) (ds : List D) (m : ME) (r : Rho) (c : Be) (C : Co) : ((mApp 16 m (s0 :: s1 :: s2 :: s3 :: s4 :: s5 :: s6 :: s7 :: s8 :: s9 :: s10 :: s11 :: s12 :: s13 :: s14 :: s15 :: (.own ds) :: r) c).af C) = ((m (s0 :: s1 :: s2 :: s3 :: s4 :: s5 :: s6 :: s7 :: s8 :: s9 :: s10 :: s11 :: s12 :: s13 :: s14 :: s15 :: (.own ds) :: r) c).af (fun d c => ds.length + 1 ≤ 16777216 ∧ C.nx ((s0 :: s1 :: s2 :: s3 :: s4 :: s5 :: s6 :: s7 :: s8 :: s9 :: s10 :: s11 :: s12 :: s13 :: s14 :: s15 :: (.own ds) :: r).set 16 (.own (ds ++ [d]))) c) (fun e b => C.ex e (s0 :: s1 :: s2 :: s3 :: s4 :: s5 :: s6 :: s7 :: s8 :: s9 :: s10 :: s11 :: s12 :: s13 :: s14 :: s15 :: (.own ds) :: r) b)) := by simp only [Eo.af_eq, Ro.af_eq, So.af_eq]; exact ((So.aft_of ..).trans (congrArg (fun f => Eo.aft _ f _) (funext fun d => funext fun c => by by_cases h : ds.length + 1 ≤ 16777216 <;> simp only [h, if_true, if_false, true_and, false_and] <;> rfl)))
theorem qext_16 (s0 s1 s2 s3 s4 s5 s6 s7 s8 s9 s10 s11 s12 s13 s14 s15 : Sl) (ds : List D) (m : MA) (r : Rho) (c : Be) (C : Co) : ((mExt 16 m (s0 :: s1 :: s2 :: s3 :: s4 :: s5 :: s6 :: s7 :: s8 :: s9 :: s10 :: s11 :: s12 :: s13 :: s14 :: s15 :: (.own ds) :: r) c).af C) = ((m (s0 :: s1 :: s2 :: s3 :: s4 :: s5 :: s6 :: s7 :: s8 :: s9 :: s10 :: s11 :: s12 :: s13 :: s14 :: s15 :: (.own ds) :: r) c).af (fun es c => ds.length + es.length ≤ 16777216 ∧ C.nx ((s0 :: s1 :: s2 :: s3 :: s4 :: s5 :: s6 :: s7 :: s8 :: s9 :: s10 :: s11 :: s12 :: s13 :: s14 :: s15 :: (.own ds) :: r).set 16 (.own (ds ++ es))) c) (fun e b => C.ex e (s0 :: s1 :: s2 :: s3 :: s4 :: s5 :: s6 :: s7 :: s8 :: s9 :: s10 :: s11 :: s12 :: s13 :: s14 :: s15 :: (.own ds) :: r) b)) := by simp only [Eo.af_eq, Ro.af_eq, So.af_eq]; exact ((So.aft_of ..).trans (congrArg (fun f => Eo.aft _ f _) (funext fun es => funext fun c => by by_cases h : ds.length + es.length ≤ 16777216 <;> simp only [h, if_true, if_false, true_and, false_and] <;> rfl)))
theorem qleak_16 (s0 s1 s2 s3 s4 s5 s6 s7 s8 s9 s10 s11 s12 s13 s14 s15 : Sl) (ds : List D) (m : MS) (r : Rho) (c : Be) (C : Co) : ((mLeak 16 m (s0 :: s1 :: s2 :: s3 :: s4 :: s5 :: s6 :: s7 :: s8 :: s9 :: s10 :: s11 :: s12 :: s13 :: s14 :: s15 :: (.own ds) :: r) c).af C) = ((m ((s0 :: s1 :: s2 :: s3 :: s4 :: s5 :: s6 :: s7 :: s8 :: s9 :: s10 :: s11 :: s12 :: s13 :: s14 :: s15 :: (.own ds) :: r).set 16 (.val (.lst ds))) c).af C) := by simp only [Eo.af_eq, Ro.af_eq, So.af_eq]; exact (propext ⟨fun h => h, fun h => h⟩)
theorem qwv_17 (s0 s1 s2 s3 s4 s5 s6 s7 s8 s9 s10 s11 s12 s13 s14 s15 s16 : Sl) (d : D) (r : Rho) (c : Be) (P : D → Be → Prop) (E : D → Be → Prop) : ((mVw 17 (s0 :: s1 :: s2 :: s3 :: s4 :: s5 :: s6 :: s7 :: s8 :: s9 :: s10 :: s11 :: s12 :: s13 :: s14 :: s15 :: s16 :: (.val d) :: r) c).af P E) = (P d c) := by simp only [Eo.af_eq, Ro.af_eq, So.af_eq]; exact (propext ⟨fun h => h, fun h => h⟩)
theorem qwo_17 (s0 s1 s2 s3 s4 s5 s6 s7 s8 s9 s10 s11 s12 s13 s14 s15 s16 : Sl) (ds : List D) (r : Rho) (c : Be) (P : D → Be → Prop) (E : D → Be → Prop) : ((mVw 17 (s0 :: s1 :: s2 :: s3 :: s4 :: s5 :: s6 :: s7 :: s8 :: s9 :: s10 :: s11 :: s12 :: s13 :: s14 :: s15 :: s16 :: (.own ds) :: r) c).af P E) = (P (.lst ds) c) := by simp only [Eo.af_eq, Ro.af_eq, So.af_eq]; exact (propext ⟨fun h => h, fun h => h⟩)
theorem qx_17 (s0 s1 s2 s3 s4 s5 s6 s7 s8 s9 s10 s11 s12 s13 s14 s15 s16 : Sl) (d : D) (r : Rho) (c : Be) (P : D → Be → Prop) (E : D → Be → Prop) : ((mVar 17 (s0 :: s1 :: s2 :: s3 :: s4 :: s5 :: s6 :: s7 :: s8 :: s9 :: s10 :: s11 :: s12 :: s13 :: s14 :: s15 :: s16 :: (.val d) :: r) c).af P E) = (P d c) := by simp only [Eo.af_eq, Ro.af_eq, So.af_eq]; exact (propext ⟨fun h => h, fun h => h⟩)
theorem qapp_17 (s0 s1 s2 s3 s4 s5 s6 s7 s8 s9 s10 s11 s12 s13 s14 s15 s16 : Sl) (ds : List D) (m : ME) (r : Rho) (c : Be) (C : Co) : ((mApp 17 m (s0 :: s1 :: s2 :: s3 :: s4 :: s5 :: s6 :: s7 :: s8 :: s9 :: s10 :: s11 :: s12 :: s13 :: s14 :: s15 :: s16 :: (.own ds) :: r) c).af C) = ((m (s0 :: s1 :: s2 :: s3 :: s4 :: s5 :: s6 :: s7 :: s8 :: s9 :: s10 :: s11 :: s12 :: s13 :: s14 :: s15 :: s16 :: (.own ds) :: r) c).af (fun d c => ds.length + 1 ≤ 16777216 ∧ C.nx ((s0 :: s1 :: s2 :: s3 :: s4 :: s5 :: s6 :: s7 :: s8 :: s9 :: s10 :: s11 :: s12 :: s13 :: s14 :: s15 :: s16 :: (.own ds) :: r).set 17 (.own (ds ++ [d]))) c) (fun e b => C.ex e (s0 :: s1 :: s2 :: s3 :: s4 :: s5 :: s6 :: s7 :: s8 :: s9 :: s10 :: s11 :: s12 :: s13 :: s14 :: s15 :: s16 :: (.own ds) :: r) b)) := by simp only [Eo.af_eq, Ro.af_eq, So.af_eq]; exact ((So.aft_of ..).trans (congrArg (fun f => Eo.aft _ f _) (funext fun d => funext fun c => by by_cases h : ds.length + 1 ≤ 16777216 <;> simp only [h, if_true, if_false, true_and, false_and] <;> rfl)))
theorem qext_17 (s0 s1 s2 s3 s4 s5 s6 s7 s8 s9 s10 s11 s12 s13 s14 s15 s16 : Sl) (ds : List D) (m : MA) (r : Rho) (c : Be) (C : Co) : ((mExt 17 m (s0 :: s1 :: s2 :: s3 :: s4 :: s5 :: s6 :: s7 :: s8 :: s9 :: s10 :: s11 :: s12 :: s13 :: s14 :: s15 :: s16 :: (.own ds) :: r) c).af C) = ((m (s0 :: s1 :: s2 :: s3 :: s4 :: s5 :: s6 :: s7 :: s8 :: s9 :: s10 :: s11 :: s12 :: s13 :: s14 :: s15 :: s16 :: (.own ds) :: r) c).af (fun es c => ds.length + es.length ≤ 16777216 ∧ C.nx ((s0 :: s1 :: s2 :: s3 :: s4 :: s5 :: s6 :: s7 :: s8 :: s9 :: s10 :: s11 :: s12 :: s13 :: s14 :: s15 :: s16 :: (.own ds) :: r).set 17 (.own (ds ++ es))) c) (fun e b => C.ex e (s0 :: s1 :: s2 :: s3 :: s4 :: s5 :: s6 :: s7 :: s8 :: s9 :: s10 :: s11 :: s12 :: s13 :: s14 :: s15 :: s16 :: (.own ds) :: r) b)) := by simp only [Eo.af_eq, Ro.af_eq, So.af_eq]; exact ((So.aft_of ..).trans (congrArg (fun f => Eo.aft _ f _) (funext fun es => funext fun c => by by_cases h : ds.length + es.length ≤ 16777216 <;> simp only [h, if_true, if_false, true_and, false_and] <;> rfl)))
theorem qleak_17 (s0 s1 s2 s3 s4 s5 s6 s7 s8 s9 s10 s11 s12 s13 s14 s15 s16 : Sl) (ds : List D) (m : MS) (r : Rho) (c : Be) (C : Co) : ((mLeak 17 m (s0 :: s1 :: s2 :: s3 :: s4 :: s5 :: s6 :: s7 :: s8 :: s9 :: s10 :: s11 :: s12 :: s13 :: s14 :: s15 :: s16 :: (.own ds) :: r) c).af C) = ((m ((s0 :: s1 :: s2 :: s3 :: s4 :: s5 :: s6 :: s7 :: s8 :: s9 :: s10 :: s11 :: s12 :: s13 :: s14 :: s15 :: s16 :: (.own ds) :: r).set 17 (.val (.lst ds))) c).af C) := by simp only [Eo.af_eq, Ro.af_eq, So.af_eq]; exact (propext ⟨fun h => h, fun h => h⟩)
theorem qwv_18 (s0 s1 s2 s3 s4 s5 s6 s7 s8 s9 s10 s11 s12 s13 s14 s15 s16 s17 : Sl) (d : D) (r : Rho) (c : Be) (P : D → Be → Prop) (E : D → Be → Prop) : ((mVw 18 (s0 :: s1 :: s2 :: s3 :: s4 :: s5 :: s6 :: s7 :: s8 :: s9 :: s10 :: s11 :: s12 :: s13 :: s14 :: s15 :: s16 :: s17 :: (.val d) :: r) c).af P E) = (P d c) := by simp only [Eo.af_eq, Ro.af_eq, So.af_eq]; exact (propext ⟨fun h => h, fun h => h⟩)
theorem qwo_18 (s0 s1 s2 s3 s4 s5 s6 s7 s8 s9 s10 s11 s12 s13 s14 s15 s16 s17 : Sl) (ds : List D) (r : Rho) (c : Be) (P : D → Be → Prop) (E : D → Be → Prop) : ((mVw 18 (s0 :: s1 :: s2 :: s3 :: s4 :: s5 :: s6 :: s7 :: s8 :: s9 :: s10 :: s11 :: s12 :: s13 :: s14 :: s15 :: s16 :: s17 :: (.own ds) :: r) c).af P E) = (P (.lst ds) c) := by simp only [Eo.af_eq, Ro.af_eq, So.af_eq]; exact (propext ⟨fun h => h, fun h => h⟩)
theorem qx_18 (s0 s1 s2 s3 s4 s5 s6 s7 s8 s9 s10 s11 s12 s13 s14 s15 s16 s17 : Sl) (d : D) (r : Rho) (c : Be) (P : D → Be → Prop) (E : D → Be → Prop) : ((mVar 18 (s0 :: s1 :: s2 :: s3 :: s4 :: s5 :: s6 :: s7 :: s8 :: s9 :: s10 :: s11 :: s12 :: s13 :: s14 :: s15 :: s16 :: s17 :: (.val d) :: r) c).af P E) = (P d c) := by simp only [Eo.af_eq, Ro.af_eq, So.af_eq]; exact (propext ⟨fun h => h, fun h => h⟩)
theorem qapp_18 (s0 s1 s2 s3 s4 s5 s6 s7 s8 s9 s10 s11 s12 s13 s14 s15 s16 s17 : Sl) (ds : List D) (m : ME) (r : Rho) (c : Be) (C : Co) : ((mApp 18 m (s0 :: s1 :: s2 :: s3 :: s4 :: s5 :: s6 :: s7 :: s8 :: s9 :: s10 :: s11 :: s12 :: s13 :: s14 :: s15 :: s16 :: s17 :: (.own ds) :: r) c).af C) = ((m (s0 :: s1 :: s2 :: s3 :: s4 :: s5 :: s6 :: s7 :: s8 :: s9 :: s10 :: s11 :: s12 :: s13 :: s14 :: s15 :: s16 :: s17 :: (.own ds) :: r) c).af (fun d c => ds.length + 1 ≤ 16777216 ∧ C.nx ((s0 :: s1 :: s2 :: s3 :: s4 :: s5 :: s6 :: s7 :: s8 :: s9 :: s10 :: s11 :: s12 :: s13 :: s14 :: s15 :: s16 :: s17 :: (.own ds) :: r).set 18 (.own (ds ++ [d]))) c) (fun e b => C.ex e (s0 :: s1 :: s2 :: s3 :: s4 :: s5 :: s6 :: s7 :: s8 :: s9 :: s10 :: s11 :: s12 :: s13 :: s14 :: s15 :: s16 :: s17 :: (.own ds) :: r) b)) := by simp only [Eo.af_eq, Ro.af_eq, So.af_eq]; exact ((So.aft_of ..).trans (congrArg (fun f => Eo.aft _ f _) (funext fun d => funext fun c => by by_cases h : ds.length + 1 ≤ 16777216 <;> simp only [h, if_true, if_false, true_and, false_and] <;> rfl)))
theorem qext_18 (s0 s1 s2 s3 s4 s5 s6 s7 s8 s9 s10 s11 s12 s13 s14 s15 s16 s17 : Sl) (ds : List D) (m : MA) (r : Rho) (c : Be) (C : Co) : ((mExt 18 m (s0 :: s1 :: s2 :: s3 :: s4 :: s5 :: s6 :: s7 :: s8 :: s9 :: s10 :: s11 :: s12 :: s13 :: s14 :: s15 :: s16 :: s17 :: (.own ds) :: r) c).af C) = ((m (s0 :: s1 :: s2 :: s3 :: s4 :: s5 :: s6 :: s7 :: s8 :: s9 :: s10 :: s11 :: s12 :: s13 :: s14 :: s15 :: s16 :: s17 :: (.own ds) :: r) c).af (fun es c => ds.length + es.length ≤ 16777216 ∧ C.nx ((s0 :: s1 :: s2 :: s3 :: s4 :: s5 :: s6 :: s7 :: s8 :: s9 :: s10 :: s11 :: s12 :: s13 :: s14 :: s15 :: s16 :: s17 :: (.own ds) :: r).set 18 (.own (ds ++ es))) c) (fun e b => C.ex e (s0 :: s1 :: s2 :: s3 :: s4 :: s5 :: s6 :: s7 :: s8 :: s9 :: s10 :: s11 :: s12 :: s13 :: s14 :: s15 :: s16 :: s17 :: (.own ds) :: r) b)) := by simp only [Eo.af_eq, Ro.af_eq, So.af_eq]; exact ((So.aft_of ..).trans (congrArg (fun f => Eo.aft _ f _) (funext fun es => funext fun c => by by_cases h : ds.length + es.length ≤ 16777216 <;> simp only [h, if_true, if_false, true_and, false_and] <;> rfl)))
theorem qleak_18 (s0 s1 s2 s3 s4 s5 s6 s7 s8 s9 s10 s11 s12 s13 s14 s15 s16 s17 : Sl) (ds : List D) (m : MS) (r : Rho) (c : Be) (C : Co) : ((mLeak 18 m (s0 :: s1 :: s2 :: s3 :: s4 :: s5 :: s6 :: s7 :: s8 :: s9 :: s10 :: s11 :: s12 :: s13 :: s14 :: s15 :: s16 :: s17 :: (.own ds) :: r) c).af C) = ((m ((s0 :: s1 :: s2 :: s3 :: s4 :: s5 :: s6 :: s7 :: s8 :: s9 :: s10 :: s11 :: s12 :: s13 :: s14 :: s15 :: s16 :: s17 :: (.own ds) :: r).set 18 (.val (.lst ds))) c).af C) := by simp only [Eo.af_eq, Ro.af_eq, So.af_eq]; exact (propext ⟨fun h => h, fun h => h⟩)
theorem qwv_19 (s0 s1 s2 s3 s4 s5 s6 s7 s8 s9 s10 s11 s12 s13 s14 s15 s16 s17 s18 : Sl) (d : D) (r : Rho) (c : Be) (P : D → Be → Prop) (E : D → Be → Prop) : ((mVw 19 (s0 :: s1 :: s2 :: s3 :: s4 :: s5 :: s6 :: s7 :: s8 :: s9 :: s10 :: s11 :: s12 :: s13 :: s14 :: s15 :: s16 :: s17 :: s18 :: (.val d) :: r) c).af P E) = (P d c) := by simp only [Eo.af_eq, Ro.af_eq, So.af_eq]; exact (propext ⟨fun h => h, fun h => h⟩)
theorem qwo_19 (s0 s1 s2 s3 s4 s5 s6 s7 s8 s9 s10 s11 s12 s13 s14 s15 s16 s17 s18 : Sl) (ds : List D) (r : Rho) (c : Be) (P : D → Be → Prop) (E : D → Be → Prop) : ((mVw 19 (s0 :: s1 :: s2 :: s3 :: s4 :: s5 :: s6 :: s7 :: s8 :: s9 :: s10 :: s11 :: s12 :: s13 :: s14 :: s15 :: s16 :: s17 :: s18 :: (.own ds) :: r) c).af P E) = (P (.lst ds) c) := by simp only [Eo.af_eq, Ro.af_eq, So.af_eq]; exact (propext ⟨fun h => h, fun h => h⟩)
theorem qx_19 (s0 s1 s2 s3 s4 s5 s6 s7 s8 s9 s10 s11 s12 s13 s14 s15 s16 s17 s18 : Sl) (d : D) (r : Rho) (c : Be) (P : D → Be → Prop) (E : D → Be → Prop) : ((mVar 19 (s0 :: s1 :: s2 :: s3 :: s4 :: s5 :: s6 :: s7 :: s8 :: s9 :: s10 :: s11 :: s12 :: s13 :: s14 :: s15 :: s16 :: s17 :: s18 :: (.val d) :: r) c).af P E) = (P d c) := by simp only [Eo.af_eq, Ro.af_eq, So.af_eq]; exact (propext ⟨fun h => h, fun h => h⟩)
theorem qapp_19 (s0 s1 s2 s3 s4 s5 s6 s7 s8 s9 s10 s11 s12 s13 s14 s15 s16 s17 s18 : Sl) (ds : List D) (m : ME) (r : Rho) (c : Be) (C : Co) : ((mApp 19 m (s0 :: s1 :: s2 :: s3 :: s4 :: s5 :: s6 :: s7 :: s8 :: s9 :: s10 :: s11 :: s12 :: s13 :: s14 :: s15 :: s16 :: s17 :: s18 :: (.own ds) :: r) c).af C) = ((m (s0 :: s1 :: s2 :: s3 :: s4 :: s5 :: s6 :: s7 :: s8 :: s9 :: s10 :: s11 :: s12 :: s13 :: s14 :: s15 :: s16 :: s17 :: s18 :: (.own ds) :: r) c).af (fun d c => ds.length + 1 ≤ 16777216 ∧ C.nx ((s0 :: s1 :: s2 :: s3 :: s4 :: s5 :: s6 :: s7 :: s8 :: s9 :: s10 :: s11 :: s12 :: s13 :: s14 :: s15 :: s16 :: s17 :: s18 :: (.own ds) :: r).set 19 (.own (ds ++ [d]))) c) (fun e b => C.ex e (s0 :: s1 :: s2 :: s3 :: s4 :: s5 :: s6 :: s7 :: s8 :: s9 :: s10 :: s11 :: s12 :: s13 :: s14 :: s15 :: s16 :: s17 :: s18 :: (.own ds) :: r) b)) := by simp only [Eo.af_eq, Ro.af_eq, So.af_eq]; exact ((So.aft_of ..).trans (congrArg (fun f => Eo.aft _ f _) (funext fun d => funext fun c => by by_cases h : ds.length + 1 ≤ 16777216 <;> simp only [h, if_true, if_false, true_and, false_and] <;> rfl)))
theorem qext_19 (s0 s1 s2 s3 s4 s5 s6 s7 s8 s9 s10 s11 s12 s13 s14 s15 s16 s17 s18 : Sl) (ds : List D) (m : MA) (r : Rho) (c : Be) (C : Co) : ((mExt 19 m (s0 :: s1 :: s2 :: s3 :: s4 :: s5 :: s6 :: s7 :: s8 :: s9 :: s10 :: s11 :: s12 :: s13 :: s14 :: s15 :: s16 :: s17 :: s18 :: (.own ds) :: r) c).af C) = ((m (s0 :: s1 :: s2 :: s3 :: s4 :: s5 :: s6 :: s7 :: s8 :: s9 :: s10 :: s11 :: s12 :: s13 :: s14 :: s15 :: s16 :: s17 :: s18 :: (.own ds) :: r) c).af (fun es c => ds.length + es.length ≤ 16777216 ∧ C.nx ((s0 :: s1 :: s2 :: s3 :: s4 :: s5 :: s6 :: s7 :: s8 :: s9 :: s10 :: s11 :: s12 :: s13 :: s14 :: s15 :: s16 :: s17 :: s18 :: (.own ds) :: r).set 19 (.own (ds ++ es))) c) (fun e b => C.ex e (s0 :: s1 :: s2 :: s3 :: s4 :: s5 :: s6 :: s7 :: s8 :: s9 :: s10 :: s11 :: s12 :: s13 :: s14 :: s15 :: s16 :: s17 :: s18 :: (.own ds) :: r) b)) := by simp only [Eo.af_eq, Ro.af_eq, So.af_eq]; exact ((So.aft_of ..).trans (congrArg (fun f => Eo.aft _ f _) (funext fun es => funext fun c => by by_cases h : ds.length + es.length ≤ 16777216 <;> simp only [h, if_true, if_false, true_and, false_and] <;> rfl)))
theorem qleak_19 (s0 s1 s2 s3 s4 s5 s6 s7 s8 s9 s10 s11 s12 s13 s14 s15 s16 s17 s18 : Sl) (ds : List D) (m : MS) (r : Rho) (c : Be) (C : Co) : ((mLeak 19 m (s0 :: s1 :: s2 :: s3 :: s4 :: s5 :: s6 :: s7 :: s8 :: s9 :: s10 :: s11 :: s12 :: s13 :: s14 :: s15 :: s16 :: s17 :: s18 :: (.own ds) :: r) c).af C) = ((m ((s0 :: s1 :: s2 :: s3 :: s4 :: s5 :: s6 :: s7 :: s8 :: s9 :: s10 :: s11 :: s12 :: s13 :: s14 :: s15 :: s16 :: s17 :: s18 :: (.own ds) :: r).set 19 (.val (.lst ds))) c).af C) := by simp only [Eo.af_eq, Ro.af_eq, So.af_eq]; exact (propext ⟨fun h => h, fun h => h⟩)
theorem qwv_20 (s0 s1 s2 s3 s4 s5 s6 s7 s8 s9 s10 s11 s12 s13 s14 s15 s16 s17 s18 s19 : Sl) (d : D) (r : Rho) (c : Be) (P : D → Be → Prop) (E : D → Be → Prop) : ((mVw 20 (s0 :: s1 :: s2 :: s3 :: s4 :: s5 :: s6 :: s7 :: s8 :: s9 :: s10 :: s11 :: s12 :: s13 :: s14 :: s15 :: s16 :: s17 :: s18 :: s19 :: (.val d) :: r) c).af P E) = (P d c) := by simp only [Eo.af_eq, Ro.af_eq, So.af_eq]; exact (propext ⟨fun h => h, fun h => h⟩)
theorem qwo_20 (s0 s1 s2 s3 s4 s5 s6 s7 s8 s9 s10 s11 s12 s13 s14 s15 s16 s17 s18 s19 : Sl) (ds : List D) (r : Rho) (c : Be) (P : D → Be → Prop) (E : D → Be → Prop) : ((mVw 20 (s0 :: s1 :: s2 :: s3 :: s4 :: s5 :: s6 :: s7 :: s8 :: s9 :: s10 :: s11 :: s12 :: s13 :: s14 :: s15 :: s16 :: s17 :: s18 :: s19 :: (.own ds) :: r) c).af P E) = (P (.lst ds) c) := by simp only [Eo.af_eq, Ro.af_eq, So.af_eq]; exact (propext ⟨fun h => h, fun h => h⟩)
theorem qx_20 (s0 s1 s2 s3 s4 s5 s6 s7 s8 s9 s10 s11 s12 s13 s14 s15 s16 s17 s18 s19 : Sl) (d : D) (r : Rho) (c : Be) (P : D → Be → Prop) (E : D → Be → Prop) : ((mVar 20 (s0 :: s1 :: s2 :: s3 :: s4 :: s5 :: s6 :: s7 :: s8 :: s9 :: s10 :: s11 :: s12 :: s13 :: s14 :: s15 :: s16 :: s17 :: s18 :: s19 :: (.val d) :: r) c).af P E) = (P d c) := by simp only [Eo.af_eq, Ro.af_eq, So.af_eq]; exact (propext ⟨fun h => h, fun h => h⟩)
theorem qapp_20 (s0 s1 s2 s3 s4 s5 s6 s7 s8 s9 s10 s11 s12 s13 s14 s15 s16 s17 s18 s19 : Sl) (ds : List D) (m : ME) (r : Rho) (c : Be) (C : Co) : ((mApp 20 m (s0 :: s1 :: s2 :: s3 :: s4 :: s5 :: s6 :: s7 :: s8 :: s9 :: s10 :: s11 :: s12 :: s13 :: s14 :: s15 :: s16 :: s17 :: s18 :: s19 :: (.own ds) :: r) c).af C) = ((m (s0 :: s1 :: s2 :: s3 :: s4 :: s5 :: s6 :: s7 :: s8 :: s9 :: s10 :: s11 :: s12 :: s13 :: s14 :: s15 :: s16 :: s17 :: s18 :: s19 :: (.own ds) :: r) c).af (fun d c => ds.length + 1 ≤ 16777216 ∧ C.nx ((s0 :: s1 :: s2 :: s3 :: s4 :: s5 :: s6 :: s7 :: s8 :: s9 :: s10 :: s11 :: s12 :: s13 :: s14 :: s15 :: s16 :: s17 :: s18 :: s19 :: (.own ds) :: r).set 20 (.own (ds ++ [d]))) c) (fun e b => C.ex e (s0 :: s1 :: s2 :: s3 :: s4 :: s5 :: s6 :: s7 :: s8 :: s9 :: s10 :: s11 :: s12 :: s13 :: s14 :: s15 :: s16 :: s17 :: s18 :: s19 :: (.own ds) :: r) b)) := by simp only [Eo.af_eq, Ro.af_eq, So.af_eq]; exact ((So.aft_of ..).trans (congrArg (fun f => Eo.aft _ f _) (funext fun d => funext fun c => by by_cases h : ds.length + 1 ≤ 16777216 <;> simp only [h, if_true, if_false, true_and, false_and] <;> rfl)))
theorem qext_20 (s0 s1 s2 s3 s4 s5 s6 s7 s8 s9 s10 s11 s12 s13 s14 s15 s16 s17 s18 s19 : Sl) (ds : List D) (m : MA) (r : Rho) (c : Be) (C : Co) : ((mExt 20 m (s0 :: s1 :: s2 :: s3 :: s4 :: s5 :: s6 :: s7 :: s8 :: s9 :: s10 :: s11 :: s12 :: s13 :: s14 :: s15 :: s16 :: s17 :: s18 :: s19 :: (.own ds) :: r) c).af C) = ((m (s0 :: s1 :: s2 :: s3 :: s4 :: s5 :: s6 :: s7 :: s8 :: s9 :: s10 :: s11 :: s12 :: s13 :: s14 :: s15 :: s16 :: s17 :: s18 :: s19 :: (.own ds) :: r) c).af (fun es c => ds.length + es.length ≤ 16777216 ∧ C.nx ((s0 :: s1 :: s2 :: s3 :: s4 :: s5 :: s6 :: s7 :: s8 :: s9 :: s10 :: s11 :: s12 :: s13 :: s14 :: s15 :: s16 :: s17 :: s18 :: s19 :: (.own ds) :: r).set 20 (.own (ds ++ es))) c) (fun e b => C.ex e (s0 :: s1 :: s2 :: s3 :: s4 :: s5 :: s6 :: s7 :: s8 :: s9 :: s10 :: s11 :: s12 :: s13 :: s14 :: s15 :: s16 :: s17 :: s18 :: s19 :: (.own ds) :: r) b)) := by simp only [Eo.af_eq, Ro.af_eq, So.af_eq]; exact ((So.aft_of ..).trans (congrArg (fun f => Eo.aft _ f _) (funext fun es => funext fun c => by by_cases h : ds.length + es.length ≤ 16777216 <;> simp only [h, if_true, if_false, true_and, false_and] <;> rfl)))
theorem qleak_20 (s0 s1 s2 s3 s4 s5 s6 s7 s8 s9 s10 s11 s12 s13 s14 s15 s16 s17 s18 s19 : Sl) (ds : List D) (m : MS) (r : Rho) (c : Be) (C : Co) : ((mLeak 20 m (s0 :: s1 :: s2 :: s3 :: s4 :: s5 :: s6 :: s7 :: s8 :: s9 :: s10 :: s11 :: s12 :: s13 :: s14 :: s15 :: s16 :: s17 :: s18 :: s19 :: (.own ds) :: r) c).af C) = ((m ((s0 :: s1 :: s2 :: s3 :: s4 :: s5 :: s6 :: s7 :: s8 :: s9 :: s10 :: s11 :: s12 :: s13 :: s14 :: s15 :: s16 :: s17 :: s18 :: s19 :: (.own ds) :: r).set 20 (.val (.lst ds))) c).af C) := by simp only [Eo.af_eq, Ro.af_eq, So.af_eq]; exact (propext ⟨fun h => h, fun h => h⟩)
theorem qwv_21 (s0 s1 s2 s3 s4 s5 s6 s7 s8 s9 s10 s11 s12 s13 s14 s15 s16 s17 s18 s19 s20 : Sl) (d : D) (r : Rho) (c : Be) (P : D → Be → Prop) (E : D → Be → Prop) : ((mVw 21 (s0 :: s1 :: s2 :: s3 :: s4 :: s5 :: s6 :: s7 :: s8 :: s9 :: s10 :: s11 :: s12 :: s13 :: s14 :: s15 :: s16 :: s17 :: s18 :: s19 :: s20 :: (.val d) :: r) c).af P E) = (P d c) := by simp only [Eo.af_eq, Ro.af_eq, So.af_eq]; exact (propext ⟨fun h => h, fun h => h⟩)
theorem qwo_21 (s0 s1 s2 s3 s4 s5 s6 s7 s8 s9 s10 s11 s12 s13 s14 s15 s16 s17 s18 s19 s20 : Sl) (ds : List D) (r : Rho) (c : Be) (P : D → Be → Prop) (E : D → Be → Prop) : ((mVw 21 (s0 :: s1 :: s2 :: s3 :: s4 :: s5 :: s6 :: s7 :: s8 :: s9 :: s10 :: s11 :: s12 :: s13 :: s14 :: s15 :: s16 :: s17 :: s18 :: s19 :: s20 :: (.own ds) :: r) c).af P E) = (P (.lst ds) c) := by simp only [Eo.af_eq, Ro.af_eq, So.af_eq]; exact (propext ⟨fun h => h, fun h => h⟩)
theorem qx_21 (s0 s1 s2 s3 s4 s5 s6 s7 s8 s9 s10 s11 s12 s13 s14 s15 s16 s17 s18 s19 s20 : Sl) (d : D) (r : Rho) (c : Be) (P : D → Be → Prop) (E : D → Be → Prop) : ((mVar 21 (s0 :: s1 :: s2 :: s3 :: s4 :: s5 :: s6 :: s7 :: s8 :: s9 :: s10 :: s11 :: s12 :: s13 :: s14 :: s15 :: s16 :: s17 :: s18 :: s19 :: s20 :: (.val d) :: r) c).af P E) = (P d c) := by simp only [Eo.af_eq, Ro.af_eq, So.af_eq]; exact (propext ⟨fun h => h, fun h => h⟩)
theorem qapp_21 (s0 s1 s2 s3 s4 s5 s6 s7 s8 s9 s10 s11 s12 s13 s14 s15 s16 s17 s18 s19 s20 : Sl) (ds : List D) (m : ME) (r : Rho) (c : Be) (C : Co) : ((mApp 21 m (s0 :: s1 :: s2 :: s3 :: s4 :: s5 :: s6 :: s7 :: s8 :: s9 :: s10 :: s11 :: s12 :: s13 :: s14 :: s15 :: s16 :: s17 :: s18 :: s19 :: s20 :: (.own ds) :: r) c).af C) = ((m (s0 :: s1 :: s2 :: s3 :: s4 :: s5 :: s6 :: s7 :: s8 :: s9 :: s10 :: s11 :: s12 :: s13 :: s14 :: s15 :: s16 :: s17 :: s18 :: s19 :: s20 :: (.own ds) :: r) c).af (fun d c => ds.length + 1 ≤ 16777216 ∧ C.nx ((s0 :: s1 :: s2 :: s3 :: s4 :: s5 :: s6 :: s7 :: s8 :: s9 :: s10 :: s11 :: s12 :: s13 :: s14 :: s15 :: s16 :: s17 :: s18 :: s19 :: s20 :: (.own ds) :: r).set 21 (.own (ds ++ [d]))) c) (fun e b => C.ex e (s0 :: s1 :: s2 :: s3 :: s4 :: s5 :: s6 :: s7 :: s8 :: s9 :: s10 :: s11 :: s12 :: s13 :: s14 :: s15 :: s16 :: s17 :: s18 :: s19 :: s20 :: (.own ds) :: r) b)) := by simp only [Eo.af_eq, Ro.af_eq, So.af_eq]; exact ((So.aft_of ..).trans (congrArg (fun f => Eo.aft _ f _) (funext fun d => funext fun c => by by_cases h : ds.length + 1 ≤ 16777216 <;> simp only [h, if_true, if_false, true_and, false_and] <;> rfl)))
theorem qext_21 (s0 s1 s2 s3 s4 s5 s6 s7 s8 s9 s10 s11 s12 s13 s14 s15 s16 s17 s18 s19 s20 : Sl) (ds : List D) (m : MA) (r : Rho) (c : Be) (C : Co) : ((mExt 21 m (s0 :: s1 :: s2 :: s3 :: s4 :: s5 :: s6 :: s7 :: s8 :: s9 :: s10 :: s11 :: s12 :: s13 :: s14 :: s15 :: s16 :: s17 :: s18 :: s19 :: s20 :: (.own ds) :: r) c).af C) = ((m (s0 :: s1 :: s2 :: s3 :: s4 :: s5 :: s6 :: s7 :: s8 :: s9 :: s10 :: s11 :: s12 :: s13 :: s14 :: s15 :: s16 :: s17 :: s18 :: s19 :: s20 :: (.own ds) :: r) c).af (fun es c => ds.length + es.length ≤ 16777216 ∧ C.nx ((s0 :: s1 :: s2 :: s3 :: s4 :: s5 :: s6 :: s7 :: s8 :: s9 :: s10 :: s11 :: s12 :: s13 :: s14 :: s15 :: s16 :: s17 :: s18 :: s19 :: s20 :: (.own ds) :: r).set 21 (.own (ds ++ es))) c) (fun e b => C.ex e (s0 :: s1 :: s2 :: s3 :: s4 :: s5 :: s6 :: s7 :: s8 :: s9 :: s10 :: s11 :: s12 :: s13 :: s14 :: s15 :: s16 :: s17 :: s18 :: s19 :: s20 :: (.own ds) :: r) b)) := by simp only [Eo.af_eq, Ro.af_eq, So.af_eq]; exact ((So.aft_of ..).trans (congrArg (fun f => Eo.aft _ f _) (funext fun es => funext fun c => by by_cases h : ds.length + es.length ≤ 16777216 <;> simp only [h, if_true, if_false, true_and, false_and] <;> rfl)))
theorem qleak_21 (s0 s1 s2 s3 s4 s5 s6 s7 s8 s9 s10 s11 s12 s13 s14 s15 s16 s17 s18 s19 s20 : Sl) (ds : List D) (m : MS) (r : Rho) (c : Be) (C : Co) : ((mLeak 21 m (s0 :: s1 :: s2 :: s3 :: s4 :: s5 :: s6 :: s7 :: s8 :: s9 :: s10 :: s11 :: s12 :: s13 :: s14 :: s15 :: s16 :: s17 :: s18 :: s19 :: s20 :: (.own ds) :: r) c).af C) = ((m ((s0 :: s1 :: s2 :: s3 :: s4 :: s5 :: s6 :: s7 :: s8 :: s9 :: s10 :: s11 :: s12 :: s13 :: s14 :: s15 :: s16 :: s17 :: s18 :: s19 :: s20 :: (.own ds) :: r).set 21 (.val (.lst ds))) c).af C) := by simp only [Eo.af_eq, Ro.af_eq, So.af_eq]; exact (propext ⟨fun h => h, fun h => h⟩)
theorem qwv_22 (s0 s1 s2 s3 s4 s5 s6 s7 s8 s9 s10 s11 s12 s13 s14 s15 s16 s17 s18 s19 s20 s21 : Sl) (d : D) (r : Rho) (c : Be) (P : D → Be → Prop) (E : D → Be → Prop) : ((mVw 22 (s0 :: s1 :: s2 :: s3 :: s4 :: s5 :: s6 :: s7 :: s8 :: s9 :: s10 :: s11 :: s12 :: s13 :: s14 :: s15 :: s16 :: s17 :: s18 :: s19 :: s20 :: s21 :: (.val d) :: r) c).af P E) = (P d c) := by simp only [Eo.af_eq, Ro.af_eq, So.af_eq]; exact (propext ⟨fun h => h, fun h => h⟩)
theorem qwo_22 (s0 s1 s2 s3 s4 s5 s6 s7 s8 s9 s10 s11 s12 s13 s14 s15 s16 s17 s18 s19 s20 s21 : Sl) (ds : List D) (r : Rho) (c : Be) (P : D → Be → Prop) (E : D → Be → Prop) : ((mVw 22 (s0 :: s1 :: s2 :: s3 :: s4 :: s5 :: s6 :: s7 :: s8 :: s9 :: s10 :: s11 :: s12 :: s13 :: s14 :: s15 :: s16 :: s17 :: s18 :: s19 :: s20 :: s21 :: (.own ds) :: r) c).af P E) = (P (.lst ds) c) := by simp only [Eo.af_eq, Ro.af_eq, So.af_eq]; exact (propext ⟨fun h => h, fun h => h⟩)
theorem qx_22 (s0 s1 s2 s3 s4 s5 s6 s7 s8 s9 s10 s11 s12 s13 s14 s15 s16 s17 s18 s19 s20 s21 : Sl) (d : D) (r : Rho) (c : Be) (P : D → Be → Prop) (E : D → Be → Prop) : ((mVar 22 (s0 :: s1 :: s2 :: s3 :: s4 :: s5 :: s6 :: s7 :: s8 :: s9 :: s10 :: s11 :: s12 :: s13 :: s14 :: s15 :: s16 :: s17 :: s18 :: s19 :: s20 :: s21 :: (.val d) :: r) c).af P E) = (P d c) := by simp only [Eo.af_eq, Ro.af_eq, So.af_eq]; exact (propext ⟨fun h => h, fun h => h⟩)
theorem qapp_22 (s0 s1 s2 s3 s4 s5 s6 s7 s8 s9 s10 s11 s12 s13 s14 s15 s16 s17 s18 s19 s20 s21 : Sl) (ds : List D) (m : ME) (r : Rho) (c : Be) (C : Co) : ((mApp 22 m (s0 :: s1 :: s2 :: s3 :: s4 :: s5 :: s6 :: s7 :: s8 :: s9 :: s10 :: s11 :: s12 :: s13 :: s14 :: s15 :: s16 :: s17 :: s18 :: s19 :: s20 :: s21 :: (.own ds) :: r) c).af C) = ((m (s0 :: s1 :: s2 :: s3 :: s4 :: s5 :: s6 :: s7 :: s8 :: s9 :: s10 :: s11 :: s12 :: s13 :: s14 :: s15 :: s16 :: s17 :: s18 :: s19 :: s20 :: s21 :: (.own ds) :: r) c).af (fun d c => ds.length + 1 ≤ 16777216 ∧ C.nx ((s0 :: s1 :: s2 :: s3 :: s4 :: s5 :: s6 :: s7 :: s8 :: s9 :: s10 :: s11 :: s12 :: s13 :: s14 :: s15 :: s16 :: s17 :: s18 :: s19 :: s20 :: s21 :: (.own ds) :: r).set 22 (.own (ds ++ [d]))) c) (fun e b => C.ex e (s0 :: s1 :: s2 :: s3 :: s4 :: s5 :: s6 :: s7 :: s8 :: s9 :: s10 :: s11 :: s12 :: s13 :: s14 :: s15 :: s16 :: s17 :: s18 :: s19 :: s20 :: s21 :: (.own ds) :: r) b)) := by simp only [Eo.af_eq, Ro.af_eq, So.af_eq]; exact ((So.aft_of ..).trans (congrArg (fun f => Eo.aft _ f _) (funext fun d => funext fun c => by by_cases h : ds.length + 1 ≤ 16777216 <;> simp only [h, if_true, if_false, true_and, false_and] <;> rfl)))
theorem qext_22 (s0 s1 s2 s3 s4 s5 s6 s7 s8 s9 s10 s11 s12 s13 s14 s15 s16 s17 s18 s19 s20 s21 : Sl) (ds : List D) (m : MA) (r : Rho) (c : Be) (C : Co) : ((mExt 22 m (s0 :: s1 :: s2 :: s3 :: s4 :: s5 :: s6 :: s7 :: s8 :: s9 :: s10 :: s11 :: s12 :: s13 :: s14 :: s15 :: s16 :: s17 :: s18 :: s19 :: s20 :: s21 :: (.own ds) :: r) c).af C) = ((m (s0 :: s1 :: s2 :: s3 :: s4 :: s5 :: s6 :: s7 :: s8 :: s9 :: s10 :: s11 :: s12 :: s13 :: s14 :: s15 :: s16 :: s17 :: s18 :: s19 :: s20 :: s21 :: (.own ds) :: r) c).af (fun es c => ds.length + es.length ≤ 16777216 ∧ C.nx ((s0 :: s1 :: s2 :: s3 :: s4 :: s5 :: s6 :: s7 :: s8 :: s9 :: s10 :: s11 :: s12 :: s13 :: s14 :: s15 :: s16 :: s17 :: s18 :: s19 :: s20 :: s21 :: (.own ds) :: r).set 22 (.own (ds ++ es))) c) (fun e b => C.ex e (s0 :: s1 :: s2 :: s3 :: s4 :: s5 :: s6 :: s7 :: s8 :: s9 :: s10 :: s11 :: s12 :: s13 :: s14 :: s15 :: s16 :: s17 :: s18 :: s19 :: s20 :: s21 :: (.own ds) :: r) b)) := by simp only [Eo.af_eq, Ro.af_eq, So.af_eq]; exact ((So.aft_of ..).trans (congrArg (fun f => Eo.aft _ f _) (funext fun es => funext fun c => by by_cases h : ds.length + es.length ≤ 16777216 <;> simp only [h, if_true, if_false, true_and, false_and] <;> rfl)))
theorem qleak_22 (s0 s1 s2 s3 s4 s5 s6 s7 s8 s9 s10 s11 s12 s13 s14 s15 s16 s17 s18 s19 s20 s21 : Sl) (ds : List D) (m : MS) (r : Rho) (c : Be) (C : Co) : ((mLeak 22 m (s0 :: s1 :: s2 :: s3 :: s4 :: s5 :: s6 :: s7 :: s8 :: s9 :: s10 :: s11 :: s12 :: s13 :: s14 :: s15 :: s16 :: s17 :: s18 :: s19 :: s20 :: s21 :: (.own ds) :: r) c).af C) = ((m ((s0 :: s1 :: s2 :: s3 :: s4 :: s5 :: s6 :: s7 :: s8 :: s9 :: s10 :: s11 :: s12 :: s13 :: s14 :: s15 :: s16 :: s17 :: s18 :: s19 :: s20 :: s21 :: (.own ds) :: r).set 22 (.val (.lst ds))) c).af C) := by simp only [Eo.af_eq, Ro.af_eq, So.af_eq]; exact (propext ⟨fun h => h, fun h => h⟩)
theorem qwv_23 (s0 s1 s2 s3 s4 s5 s6 s7 s8 s9 s10 s11 s12 s13 s14 s15 s16 s17 s18 s19 s20 s21 s22 : Sl) (d : D) (r : Rho) (c : Be) (P : D → Be → Prop) (E : D → Be → Prop) : ((mVw 23 (s0 :: s1 :: s2 :: s3 :: s4 :: s5 :: s6 :: s7 :: s8 :: s9 :: s10 :: s11 :: s12 :: s13 :: s14 :: s15 :: s16 :: s17 :: s18 :: s19 :: s20 :: s21 :: s22 :: (.val d) :: r) c).af P E) = (P d c) := by simp only [Eo.af_eq, Ro.af_eq, So.af_eq]; exact (propext ⟨fun h => h, fun h => h⟩)
theorem qwo_23 (s0 s1 s2 s3 s4 s5 s6 s7 s8 s9 s10 s11 s12 s13 s14 s15 s16 s17 s18 s19 s20 s21 s22 : Sl) (ds : List D) (r : Rho) (c : Be) (P : D → Be → Prop) (E : D → Be → Prop) : ((mVw 23 (s0 :: s1 :: s2 :: s3 :: s4 :: s5 :: s6 :: s7 :: s8 :: s9 :: s10 :: s11 :: s12 :: s13 :: s14 :: s15 :: s16 :: s17 :: s18 :: s19 :: s20 :: s21 :: s22 :: (.own ds) :: r) c).af P E) = (P (.lst ds) c) := by simp only [Eo.af_eq, Ro.af_eq, So.af_eq]; exact (propext ⟨fun h => h, fun h => h⟩)
theorem qx_23 (s0 s1 s2 s3 s4 s5 s6 s7 s8 s9 s10 s11 s12 s13 s14 s15 s16 s17 s18 s19 s20 s21 s22 : Sl) (d : D) (r : Rho) (c : Be) (P : D → Be → Prop) (E : D → Be → Prop) : ((mVar 23 (s0 :: s1 :: s2 :: s3 :: s4 :: s5 :: s6 :: s7 :: s8 :: s9 :: s10 :: s11 :: s12 :: s13 :: s14 :: s15 :: s16 :: s17 :: s18 :: s19 :: s20 :: s21 :: s22 :: (.val d) :: r) c).af P E) = (P d c) := by simp only [Eo.af_eq, Ro.af_eq, So.af_eq]; exact (propext ⟨fun h => h, fun h => h⟩)
theorem qapp_23 (s0 s1 s2 s3 s4 s5 s6 s7 s8 s9 s10 s11 s12 s13 s14 s15 s16 s17 s18 s19 s20 s21 s22 : Sl) (ds : List D) (m : ME) (r : Rho) (c : Be) (C : Co) : ((mApp 23 m (s0 :: s1 :: s2 :: s3 :: s4 :: s5 :: s6 :: s7 :: s8 :: s9 :: s10 :: s11 :: s12 :: s13 :: s14 :: s15 :: s16 :: s17 :: s18 :: s19 :: s20 :: s21 :: s22 :: (.own ds) :: r) c).af C) = ((m (s0 :: s1 :: s2 :: s3 :: s4 :: s5 :: s6 :: s7 :: s8 :: s9 :: s10 :: s11 :: s12 :: s13 :: s14 :: s15 :: s16 :: s17 :: s18 :: s19 :: s20 :: s21 :: s22 :: (.own ds) :: r) c).af (fun d c => ds.length + 1 ≤ 16777216 ∧ C.nx ((s0 :: s1 :: s2 :: s3 :: s4 :: s5 :: s6 :: s7 :: s8 :: s9 :: s10 :: s11 :: s12 :: s13 :: s14 :: s15 :: s16 :: s17 :: s18 :: s19 :: s20 :: s21 :: s22 :: (.own ds) :: r).set 23 (.own (ds ++ [d]))) c) (fun e b => C.ex e (s0 :: s1 :: s2 :: s3 :: s4 :: s5 :: s6 :: s7 :: s8 :: s9 :: s10 :: s11 :: s12 :: s13 :: s14 :: s15 :: s16 :: s17 :: s18 :: s19 :: s20 :: s21 :: s22 :: (.own ds) :: r) b)) := by simp only [Eo.af_eq, Ro.af_eq, So.af_eq]; exact ((So.aft_of ..).trans (congrArg (fun f => Eo.aft _ f _) (funext fun d => funext fun c => by by_cases h : ds.length + 1 ≤ 16777216 <;> simp only [h, if_true, if_false, true_and, false_and] <;> rfl)))
theorem qext_23 (s0 s1 s2 s3 s4 s5 s6 s7 s8 s9 s10 s11 s12 s13 s14 s15 s16 s17 s18 s19 s20 s21 s22 : Sl) (ds : List D) (m : MA) (r : Rho) (c : Be) (C : Co) : ((mExt 23 m (s0 :: s1 :: s2 :: s3 :: s4 :: s5 :: s6 :: s7 :: s8 :: s9 :: s10 :: s11 :: s12 :: s13 :: s14 :: s15 :: s16 :: s17 :: s18 :: s19 :: s20 :: s21 :: s22 :: (.own ds) :: r) c).af C) = ((m (s0 :: s1 :: s2 :: s3 :: s4 :: s5 :: s6 :: s7 :: s8 :: s9 :: s10 :: s11 :: s12 :: s13 :: s14 :: s15 :: s16 :: s17 :: s18 :: s19 :: s20 :: s21 :: s22 :: (.own ds) :: r) c).af (fun es c => ds.length + es.length ≤ 16777216 ∧ C.nx ((s0 :: s1 :: s2 :: s3 :: s4 :: s5 :: s6 :: s7 :: s8 :: s9 :: s10 :: s11 :: s12 :: s13 :: s14 :: s15 :: s16 :: s17 :: s18 :: s19 :: s20 :: s21 :: s22 :: (.own ds) :: r).set 23 (.own (ds ++ es))) c) (fun e b => C.ex e (s0 :: s1 :: s2 :: s3 :: s4 :: s5 :: s6 :: s7 :: s8 :: s9 :: s10 :: s11 :: s12 :: s13 :: s14 :: s15 :: s16 :: s17 :: s18 :: s19 :: s20 :: s21 :: s22 :: (.own ds) :: r) b)) := by simp only [Eo.af_eq, Ro.af_eq, So.af_eq]; exact ((So.aft_of ..).trans (congrArg (fun f => Eo.aft _ f _) (funext fun es => funext fun c => by by_cases h : ds.length + es.length ≤ 16777216 <;> simp only [h, if_true, if_false, true_and, false_and] <;> rfl)))
theorem qleak_23 (s0 s1 s2 s3 s4 s5 s6 s7 s8 s9 s10 s11 s12 s13 s14 s15 s16 s17 s18 s19 s20 s21 s22 : Sl) (ds : List D) (m : MS) (r : Rho) (c : Be) (C : Co) : ((mLeak 23 m (s0 :: s1 :: s2 :: s3 :: s4 :: s5 :: s6 :: s7 :: s8 :: s9 :: s10 :: s11 :: s12 :: s13 :: s14 :: s15 :: s16 :: s17 :: s18 :: s19 :: s20 :: s21 :: s22 :: (.own ds) :: r) c).af C) = ((m ((s0 :: s1 :: s2 :: s3 :: s4 :: s5 :: s6 :: s7 :: s8 :: s9 :: s10 :: s11 :: s12 :: s13 :: s14 :: s15 :: s16 :: s17 :: s18 :: s19 :: s20 :: s21 :: s22 :: (.own ds) :: r).set 23 (.val (.lst ds))) c).af C) := by simp only [Eo.af_eq, Ro.af_eq, So.af_eq]; exact (propext ⟨fun h => h, fun h => h⟩)
theorem qwv_24 (s0 s1 s2 s3 s4 s5 s6 s7 s8 s9 s10 s11 s12 s13 s14 s15 s16 s17 s18 s19 s20 s21 s22 s23 : Sl) (d : D) (r : Rho) (c : Be) (P : D → Be → Prop) (E : D → Be → Prop) : ((mVw 24 (s0 :: s1 :: s2 :: s3 :: s4 :: s5 :: s6 :: s7 :: s8 :: s9 :: s10 :: s11 :: s12 :: s13 :: s14 :: s15 :: s16 :: s17 :: s18 :: s19 :: s20 :: s21 :: s22 :: s23 :: (.val d) :: r) c).af P E) = (P d c) := by simp only [Eo.af_eq, Ro.af_eq, So.af_eq]; exact (propext ⟨fun h => h, fun h => h⟩)
theorem qwo_24 (s0 s1 s2 s3 s4 s5 s6 s7 s8 s9 s10 s11 s12 s13 s14 s15 s16 s17 s18 s19 s20 s21 s22 s23 : Sl) (ds : List D) (r : Rho) (c : Be) (P : D → Be → Prop) (E : D → Be → Prop) : ((mVw 24 (s0 :: s1 :: s2 :: s3 :: s4 :: s5 :: s6 :: s7 :: s8 :: s9 :: s10 :: s11 :: s12 :: s13 :: s14 :: s15 :: s16 :: s17 :: s18 :: s19 :: s20 :: s21 :: s22 :: s23 :: (.own ds) :: r) c).af P E) = (P (.lst ds) c) := by simp only [Eo.af_eq, Ro.af_eq, So.af_eq]; exact (propext ⟨fun h => h, fun h => h⟩)
theorem qx_24 (s0 s1 s2 s3 s4 s5 s6 s7 s8 s9 s10 s11 s12 s13 s14 s15 s16 s17 s18 s19 s20 s21 s22 s23 : Sl) (d : D) (r : Rho) (c : Be) (P : D → Be → Prop) (E : D → Be → Prop) : ((mVar 24 (s0 :: s1 :: s2 :: s3 :: s4 :: s5 :: s6 :: s7 :: s8 :: s9 :: s10 :: s11 :: s12 :: s13 :: s14 :: s15 :: s16 :: s17 :: s18 :: s19 :: s20 :: s21 :: s22 :: s23 :: (.val d) :: r) c).af P E) = (P d c) := by simp only [Eo.af_eq, Ro.af_eq, So.af_eq]; exact (propext ⟨fun h => h, fun h => h⟩)
theorem qapp_24 (s0 s1 s2 s3 s4 s5 s6 s7 s8 s9 s10 s11 s12 s13 s14 s15 s16 s17 s18 s19 s20 s21 s22 s23 : Sl) (ds : List D) (m : ME) (r : Rho) (c : Be) (C : Co) : ((mApp 24 m (s0 :: s1 :: s2 :: s3 :: s4 :: s5 :: s6 :: s7 :: s8 :: s9 :: s10 :: s11 :: s12 :: s13 :: s14 :: s15 :: s16 :: s17 :: s18 :: s19 :: s20 :: s21 :: s22 :: s23 :: (.own ds) :: r) c).af C) = ((m (s0 :: s1 :: s2 :: s3 :: s4 :: s5 :: s6 :: s7 :: s8 :: s9 :: s10 :: s11 :: s12 :: s13 :: s14 :: s15 :: s16 :: s17 :: s18 :: s19 :: s20 :: s21 :: s22 :: s23 :: (.own ds) :: r) c).af (fun d c => ds.length + 1 ≤ 16777216 ∧ C.nx ((s0 :: s1 :: s2 :: s3 :: s4 :: s5 :: s6 :: s7 :: s8 :: s9 :: s10 :: s11 :: s12 :: s13 :: s14 :: s15 :: s16 :: s17 :: s18 :: s19 :: s20 :: s21 :: s22 :: s23 :: (.own ds) :: r).set 24 (.own (ds ++ [d]))) c) (fun e b => C.ex e (s0 :: s1 :: s2 :: s3 :: s4 :: s5 :: s6 :: s7 :: s8 :: s9 :: s10 :: s11 :: s12 :: s13 :: s14 :: s15 :: s16 :: s17 :: s18 :: s19 :: s20 :: s21 :: s22 :: s23 :: (.own ds) :: r) b)) := by simp only [Eo.af_eq, Ro.af_eq, So.af_eq]; exact ((So.aft_of ..).trans (congrArg (fun f => Eo.aft _ f _) (funext fun d => funext fun c => by by_cases h : ds.length + 1 ≤ 16777216 <;> simp only [h, if_true, if_false, true_and, false_and] <;> rfl)))
theorem qext_24 (s0 s1 s2 s3 s4 s5 s6 s7 s8 s9 s10 s11 s12 s13 s14 s15 s16 s17 s18 s19 s20 s21 s22 s23 : Sl) (ds : List D) (m : MA) (r : Rho) (c : Be) (C : Co) : ((mExt 24 m (s0 :: s1 :: s2 :: s3 :: s4 :: s5 :: s6 :: s7 :: s8 :: s9 :: s10 :: s11 :: s12 :: s13 :: s14 :: s15 :: s16 :: s17 :: s18 :: s19 :: s20 :: s21 :: s22 :: s23 :: (.own ds) :: r) c).af C) = ((m (s0 :: s1 :: s2 :: s3 :: s4 :: s5 :: s6 :: s7 :: s8 :: s9 :: s10 :: s11 :: s12 :: s13 :: s14 :: s15 :: s16 :: s17 :: s18 :: s19 :: s20 :: s21 :: s22 :: s23 :: (.own ds) :: r) c).af (fun es c => ds.length + es.length ≤ 16777216 ∧ C.nx ((s0 :: s1 :: s2 :: s3 :: s4 :: s5 :: s6 :: s7 :: s8 :: s9 :: s10 :: s11 :: s12 :: s13 :: s14 :: s15 :: s16 :: s17 :: s18 :: s19 :: s20 :: s21 :: s22 :: s23 :: (.own ds) :: r).set 24 (.own (ds ++ es))) c) (fun e b => C.ex e (s0 :: s1 :: s2 :: s3 :: s4 :: s5 :: s6 :: s7 :: s8 :: s9 :: s10 :: s11 :: s12 :: s13 :: s14 :: s15 :: s16 :: s17 :: s18 :: s19 :: s20 :: s21 :: s22 :: s23 :: (.own ds) :: r) b)) := by simp only [Eo.af_eq, Ro.af_eq, So.af_eq]; exact ((So.aft_of ..).trans (congrArg (fun f => Eo.aft _ f _) (funext fun es => funext fun c => by by_cases h : ds.length + es.length ≤ 16777216 <;> simp only [h, if_true, if_false, true_and, false_and] <;> rfl)))
theorem qleak_24 (s0 s1 s2 s3 s4 s5 s6 s7 s8 s9 s10 s11 s12 s13 s14 s15 s16 s17 s18 s19 s20 s21 s22 s23 : Sl) (ds : List D) (m : MS) (r : Rho) (c : Be) (C : Co) : ((mLeak 24 m (s0 :: s1 :: s2 :: s3 :: s4 :: s5 :: s6 :: s7 :: s8 :: s9 :: s10 :: s11 :: s12 :: s13 :: s14 :: s15 :: s16 :: s17 :: s18 :: s19 :: s20 :: s21 :: s22 :: s23 :: (.own ds) :: r) c).af C) = ((m ((s0 :: s1 :: s2 :: s3 :: s4 :: s5 :: s6 :: s7 :: s8 :: s9 :: s10 :: s11 :: s12 :: s13 :: s14 :: s15 :: s16 :: s17 :: s18 :: s19 :: s20 :: s21 :: s22 :: s23 :: (.own ds) :: r).set 24 (.val (.lst ds))) c).af C) := by simp only [Eo.af_eq, Ro.af_eq, So.af_eq]; exact (propext ⟨fun h => h, fun h => h⟩)
theorem qwv_25 (s0 s1 s2 s3 s4 s5 s6 s7 s8 s9 s10 s11 s12 s13 s14 s15 s16 s17 s18 s19 s20 s21 s22 s23 s24 : Sl) (d : D) (r : Rho) (c : Be) (P : D → Be → Prop) (E : D → Be → Prop) : ((mVw 25 (s0 :: s1 :: s2 :: s3 :: s4 :: s5 :: s6 :: s7 :: s8 :: s9 :: s10 :: s11 :: s12 :: s13 :: s14 :: s15 :: s16 :: s17 :: s18 :: s19 :: s20 :: s21 :: s22 :: s23 :: s24 :: (.val d) :: r) c).af P E) = (P d c) := by simp only [Eo.af_eq, Ro.af_eq, So.af_eq]; exact (propext ⟨fun h => h, fun h => h⟩)
theorem qwo_25 (s0 s1 s2 s3 s4 s5 s6 s7 s8 s9 s10 s11 s12 s13 s14 s15 s16 s17 s18 s19 s20 s21 s22 s23 s24 : Sl) (ds : List D) (r : Rho) (c : Be) (P : D → Be → Prop) (E : D → Be → Prop) : ((mVw 25 (s0 :: s1 :: s2 :: s3 :: s4 :: s5 :: s6 :: s7 :: s8 :: s9 :: s10 :: s11 :: s12 :: s13 :: s14 :: s15 :: s16 :: s17 :: s18 :: s19 :: s20 :: s21 :: s22 :: s23 :: s24 :: (.own ds) :: r) c).af P E) = (P (.lst ds) c) := by simp only [Eo.af_eq, Ro.af_eq, So.af_eq]; exact (propext ⟨fun h => h, fun h => h⟩)
theorem qx_25 (s0 s1 s2 s3 s4 s5 s6 s7 s8 s9 s10 s11 s12 s13 s14 s15 s16 s17 s18 s19 s20 s21 s22 s23 s24 : Sl) (d : D) (r : Rho) (c : Be) (P : D → Be → Prop) (E : D → Be → Prop) : ((mVar 25 (s0 :: s1 :: s2 :: s3 :: s4 :: s5 :: s6 :: s7 :: s8 :: s9 :: s10 :: s11 :: s12 :: s13 :: s14 :: s15 :: s16 :: s17 :: s18 :: s19 :: s20 :: s21 :: s22 :: s23 :: s24 :: (.val d) :: r) c).af P E) = (P d c) := by simp only [Eo.af_eq, Ro.af_eq, So.af_eq]; exact (propext ⟨fun h => h, fun h => h⟩)
theorem qapp_25 (s0 s1 s2 s3 s4 s5 s6 s7 s8 s9 s10 s11 s12 s13 s14 s15 s16 s17 s18 s19 s20 s21 s22 s23 s24 : Sl) (ds : List D) (m : ME) (r : Rho) (c : Be) (C : Co) : ((mApp 25 m (s0 :: s1 :: s2 :: s3 :: s4 :: s5 :: s6 :: s7 :: s8 :: s9 :: s10 :: s11 :: s12 :: s13 :: s14 :: s15 :: s16 :: s17 :: s18 :: s19 :: s20 :: s21 :: s22 :: s23 :: s24 :: (.own ds) :: r) c).af C) = ((m (s0 :: s1 :: s2 :: s3 :: s4 :: s5 :: s6 :: s7 :: s8 :: s9 :: s10 :: s11 :: s12 :: s13 :: s14 :: s15 :: s16 :: s17 :: s18 :: s19 :: s20 :: s21 :: s22 :: s23 :: s24 :: (.own ds) :: r) c).af (fun d c => ds.length + 1 ≤ 16777216 ∧ C.nx ((s0 :: s1 :: s2 :: s3 :: s4 :: s5 :: s6 :: s7 :: s8 :: s9 :: s10 :: s11 :: s12 :: s13 :: s14 :: s15 :: s16 :: s17 :: s18 :: s19 :: s20 :: s21 :: s22 :: s23 :: s24 :: (.own ds) :: r).set 25 (.own (ds ++ [d]))) c) (fun e b => C.ex e (s0 :: s1 :: s2 :: s3 :: s4 :: s5 :: s6 :: s7 :: s8 :: s9 :: s10 :: s11 :: s12 :: s13 :: s14 :: s15 :: s16 :: s17 :: s18 :: s19 :: s20 :: s21 :: s22 :: s23 :: s24 :: (.own ds) :: r) b)) := by simp only [Eo.af_eq, Ro.af_eq, So.af_eq]; exact ((So.aft_of ..).trans (congrArg (fun f => Eo.aft _ f _) (funext fun d => funext fun c => by by_cases h : ds.length + 1 ≤ 16777216 <;> simp only [h, if_true, if_false, true_and, false_and] <;> rfl)))
theorem qext_25 (s0 s1 s2 s3 s4 s5 s6 s7 s8 s9 s10 s11 s12 s13 s14 s15 s16 s17 s18 s19 s20 s21 s22 s23 s24 : Sl) (ds : List D) (m : MA) (r : Rho) (c : Be) (C : Co) : ((mExt 25 m (s0 :: s1 :: s2 :: s3 :: s4 :: s5 :: s6 :: s7 :: s8 :: s9 :: s10 :: s11 :: s12 :: s13 :: s14 :: s15 :: s16 :: s17 :: s18 :: s19 :: s20 :: s21 :: s22 :: s23 :: s24 :: (.own ds) :: r) c).af C) = ((m (s0 :: s1 :: s2 :: s3 :: s4 :: s5 :: s6 :: s7 :: s8 :: s9 :: s10 :: s11 :: s12 :: s13 :: s14 :: s15 :: s16 :: s17 :: s18 :: s19 :: s20 :: s21 :: s22 :: s23 :: s24 :: (.own ds) :: r) c).af (fun es c => ds.length + es.length ≤ 16777216 ∧ C.nx ((s0 :: s1 :: s2 :: s3 :: s4 :: s5 :: s6 :: s7 :: s8 :: s9 :: s10 :: s11 :: s12 :: s13 :: s14 :: s15 :: s16 :: s17 :: s18 :: s19 :: s20 :: s21 :: s22 :: s23 :: s24 :: (.own ds) :: r).set 25 (.own (ds ++ es))) c) (fun e b => C.ex e (s0 :: s1 :: s2 :: s3 :: s4 :: s5 :: s6 :: s7 :: s8 :: s9 :: s10 :: s11 :: s12 :: s13 :: s14 :: s15 :: s16 :: s17 :: s18 :: s19 :: s20 :: s21 :: s22 :: s23 :: s24 :: (.own ds) :: r) b)) := by simp only [Eo.af_eq, Ro.af_eq, So.af_eq]; exact ((So.aft_of ..).trans (congrArg (fun f => Eo.aft _ f _) (funext fun es => funext fun c => by by_cases h : ds.length + es.length ≤ 16777216 <;> simp only [h, if_true, if_false, true_and, false_and] <;> rfl)))
theorem qleak_25 (s0 s1 s2 s3 s4 s5 s6 s7 s8 s9 s10 s11 s12 s13 s14 s15 s16 s17 s18 s19 s20 s21 s22 s23 s24 : Sl) (ds : List D) (m : MS) (r : Rho) (c : Be) (C : Co) : ((mLeak 25 m (s0 :: s1 :: s2 :: s3 :: s4 :: s5 :: s6 :: s7 :: s8 :: s9 :: s10 :: s11 :: s12 :: s13 :: s14 :: s15 :: s16 :: s17 :: s18 :: s19 :: s20 :: s21 :: s22 :: s23 :: s24 :: (.own ds) :: r) c).af C) = ((m ((s0 :: s1 :: s2 :: s3 :: s4 :: s5 :: s6 :: s7 :: s8 :: s9 :: s10 :: s11 :: s12 :: s13 :: s14 :: s15 :: s16 :: s17 :: s18 :: s19 :: s20 :: s21 :: s22 :: s23 :: s24 :: (.own ds) :: r).set 25 (.val (.lst ds))) c).af C) := by simp only [Eo.af_eq, Ro.af_eq, So.af_eq]; exact (propext ⟨fun h => h, fun h => h⟩)
theorem qwv_26 (s0 s1 s2 s3 s4 s5 s6 s7 s8 s9 s10 s11 s12 s13 s14 s15 s16 s17 s18 s19 s20 s21 s22 s23 s24 s25 : Sl) (d : D) (r : Rho) (c : Be) (P : D → Be → Prop) (E : D → Be → Prop) : ((mVw 26 (s0 :: s1 :: s2 :: s3 :: s4 :: s5 :: s6 :: s7 :: s8 :: s9 :: s10 :: s11 :: s12 :: s13 :: s14 :: s15 :: s16 :: s17 :: s18 :: s19 :: s20 :: s21 :: s22 :: s23 :: s24 :: s25 :: (.val d) :: r) c).af P E) = (P d c) := by simp only [Eo.af_eq, Ro.af_eq, So.af_eq]; exact (propext ⟨fun h => h, fun h => h⟩)
theorem qwo_26 (s0 s1 s2 s3 s4 s5 s6 s7 s8 s9 s10 s11 s12 s13 s14 s15 s16 s17 s18 s19 s20 s21 s22 s23 s24 s25 : Sl) (ds : List D) (r : Rho) (c : Be) (P : D → Be → Prop) (E : D → Be → Prop) : ((mVw 26 (s0 :: s1 :: s2 :: s3 :: s4 :: s5 :: s6 :: s7 :: s8 :: s9 :: s10 :: s11 :: s12 :: s13 :: s14 :: s15 :: s16 :: s17 :: s18 :: s19 :: s20 :: s21 :: s22 :: s23 :: s24 :: s25 :: (.own ds) :: r) c).af P E) = (P (.lst ds) c) := by simp only [Eo.af_eq, Ro.af_eq, So.af_eq]; exact (propext ⟨fun h => h, fun h => h⟩)
theorem qx_26 (s0 s1 s2 s3 s4 s5 s6 s7 s8 s9 s10 s11 s12 s13 s14 s15 s16 s17 s18 s19 s20 s21 s22 s23 s24 s25 : Sl) (d : D) (r : Rho) (c : Be) (P : D → Be → Prop) (E : D → Be → Prop) : ((mVar 26 (s0 :: s1 :: s2 :: s3 :: s4 :: s5 :: s6 :: s7 :: s8 :: s9 :: s10 :: s11 :: s12 :: s13 :: s14 :: s15 :: s16 :: s17 :: s18 :: s19 :: s20 :: s21 :: s22 :: s23 :: s24 :: s25 :: (.val d) :: r) c).af P E) = (P d c) := by simp only [Eo.af_eq, Ro.af_eq, So.af_eq]; exact (propext ⟨fun h => h, fun h => h⟩)
theorem qapp_26 (s0 s1 s2 s3 s4 s5 s6 s7 s8 s9 s10 s11 s12 s13 s14 s15 s16 s17 s18 s19 s20 s21 s22 s23 s24 s25 : Sl) (ds : List D) (m : ME) (r : Rho) (c : Be) (C : Co) : ((mApp 26 m (s0 :: s1 :: s2 :: s3 :: s4 :: s5 :: s6 :: s7 :: s8 :: s9 :: s10 :: s11 :: s12 :: s13 :: s14 :: s15 :: s16 :: s17 :: s18 :: s19 :: s20 :: s21 :: s22 :: s23 :: s24 :: s25 :: (.own ds) :: r) c).af C) = ((m (s0 :: s1 :: s2 :: s3 :: s4 :: s5 :: s6 :: s7 :: s8 :: s9 :: s10 :: s11 :: s12 :: s13 :: s14 :: s15 :: s16 :: s17 :: s18 :: s19 :: s20 :: s21 :: s22 :: s23 :: s24 :: s25 :: (.own ds) :: r) c).af (fun d c => ds.length + 1 ≤ 16777216 ∧ C.nx ((s0 :: s1 :: s2 :: s3 :: s4 :: s5 :: s6 :: s7 :: s8 :: s9 :: s10 :: s11 :: s12 :: s13 :: s14 :: s15 :: s16 :: s17 :: s18 :: s19 :: s20 :: s21 :: s22 :: s23 :: s24 :: s25 :: (.own ds) :: r).set 26 (.own (ds ++ [d]))) c) (fun e b => C.ex e (s0 :: s1 :: s2 :: s3 :: s4 :: s5 :: s6 :: s7 :: s8 :: s9 :: s10 :: s11 :: s12 :: s13 :: s14 :: s15 :: s16 :: s17 :: s18 :: s19 :: s20 :: s21 :: s22 :: s23 :: s24 :: s25 :: (.own ds) :: r) b)) := by simp only [Eo.af_eq, Ro.af_eq, So.af_eq]; exact ((So.aft_of ..).trans (congrArg (fun f => Eo.aft _ f _) (funext fun d => funext fun c => by by_cases h : ds.length + 1 ≤ 16777216 <;> simp only [h, if_true, if_false, true_and, false_and] <;> rfl)))
theorem qext_26 (s0 s1 s2 s3 s4 s5 s6 s7 s8 s9 s10 s11 s12 s13 s14 s15 s16 s17 s18 s19 s20 s21 s22 s23 s24 s25 : Sl) (ds : List D) (m : MA) (r : Rho) (c : Be) (C : Co) : ((mExt 26 m (s0 :: s1 :: s2 :: s3 :: s4 :: s5 :: s6 :: s7 :: s8 :: s9 :: s10 :: s11 :: s12 :: s13 :: s14 :: s15 :: s16 :: s17 :: s18 :: s19 :: s20 :: s21 :: s22 :: s23 :: s24 :: s25 :: (.own ds) :: r) c).af C) = ((m (s0 :: s1 :: s2 :: s3 :: s4 :: s5 :: s6 :: s7 :: s8 :: s9 :: s10 :: s11 :: s12 :: s13 :: s14 :: s15 :: s16 :: s17 :: s18 :: s19 :: s20 :: s21 :: s22 :: s23 :: s24 :: s25 :: (.own ds) :: r) c).af (fun es c => ds.length + es.length ≤ 16777216 ∧ C.nx ((s0 :: s1 :: s2 :: s3 :: s4 :: s5 :: s6 :: s7 :: s8 :: s9 :: s10 :: s11 :: s12 :: s13 :: s14 :: s15 :: s16 :: s17 :: s18 :: s19 :: s20 :: s21 :: s22 :: s23 :: s24 :: s25 :: (.own ds) :: r).set 26 (.own (ds ++ es))) c) (fun e b => C.ex e (s0 :: s1 :: s2 :: s3 :: s4 :: s5 :: s6 :: s7 :: s8 :: s9 :: s10 :: s11 :: s12 :: s13 :: s14 :: s15 :: s16 :: s17 :: s18 :: s19 :: s20 :: s21 :: s22 :: s23 :: s24 :: s25 :: (.own ds) :: r) b)) := by simp only [Eo.af_eq, Ro.af_eq, So.af_eq]; exact ((So.aft_of ..).trans (congrArg (fun f => Eo.aft _ f _) (funext fun es => funext fun c => by by_cases h : ds.length + es.length ≤ 16777216 <;> simp only [h, if_true, if_false, true_and, false_and] <;> rfl)))
theorem qleak_26 (s0 s1 s2 s3 s4 s5 s6 s7 s8 s9 s10 s11 s12 s13 s14 s15 s16 s17 s18 s19 s20 s21 s22 s23 s24 s25 : Sl) (ds : List D) (m : MS) (r : Rho) (c : Be) (C : Co) : ((mLeak 26 m (s0 :: s1 :: s2 :: s3 :: s4 :: s5 :: s6 :: s7 :: s8 :: s9 :: s10 :: s11 :: s12 :: s13 :: s14 :: s15 :: s16 :: s17 :: s18 :: s19 :: s20 :: s21 :: s22 :: s23 :: s24 :: s25 :: (.own ds) :: r) c).af C) = ((m ((s0 :: s1 :: s2 :: s3 :: s4 :: s5 :: s6 :: s7 :: s8 :: s9 :: s10 :: s11 :: s12 :: s13 :: s14 :: s15 :: s16 :: s17 :: s18 :: s19 :: s20 :: s21 :: s22 :: s23 :: s24 :: s25 :: (.own ds) :: r).set 26 (.val (.lst ds))) c).af C) := by simp only [Eo.af_eq, Ro.af_eq, So.af_eq]; exact (propext ⟨fun h => h, fun h => h⟩)
end GX
namespace GX
open PySem PySem.Spec PyProof.Rows L2
theorem q_suite (s : So) (i : Nat) (C : Co) : (s.suite i).af C = s.af { C with nx := fun r b => C.nx (wipeR r [i]) b, bk := fun r b => C.bk (wipeR r [i]) b, ct := fun r b => C.ct (wipeR r [i]) b, ex := fun _ _ _ => False } := by
  simp only [So.af_eq]
  cases s <;> rfl
theorem q_flatS (x : Str) : (D.str x).flat = true := rfl
theorem q_strS (x : Str) (c : Be) (P E : D → Be → Prop) : (Eo.opt (gStr [.str x]) c).af P E = P (.str x) c := by rw [Eo.af_eq]; exact propext ⟨fun h => h, fun h => h⟩
theorem q_strN (c : Be) (P E : D → Be → Prop) : (Eo.opt (gStr [.non]) c).af P E = P (.str "None") c := by rw [Eo.af_eq]; exact propext ⟨fun h => h, fun h => h⟩
theorem q_isNX (E : Str) (fs : List Str) (ds : List D) (c : Be) (P F : D → Be → Prop) : (Eo.opt (gIsN (.exc E fs ds) .non) c).af P F = P (.bl false) c := by rw [Eo.af_eq]; exact propext ⟨fun h => h, fun h => h⟩
theorem q_isNN (c : Be) (P F : D → Be → Prop) : (Eo.opt (gIsN .non .non) c).af P F = P (.bl true) c := by rw [Eo.af_eq]; exact propext ⟨fun h => h, fun h => h⟩
end GX
namespace G57
open PySem PySem.Spec PyProof.Rows L2 GX
def top (i : Nat) : Stmt := PySem.Challenge.pw_growfences_k57_texts_as_written.main.body.getD i (.Pass ⟨0, 0, 0, 0⟩)
abbrev FnP (K : PySem.W.Frag) (x q : Str) (st : Stmt) (f : Addr) (fd : FuncData) : Prop := FunD K x q (defArgs st) (defBody st) (defScope st) [] [] f fd
def ancX : Anc := [("FenceError", ["FenceError", "ValueError"]), ("InvalidMove", ["InvalidMove", "FenceError", "ValueError"]), ("InvalidFence", ["InvalidFence", "FenceError", "ValueError"]), ("InvalidRule", ["InvalidRule", "FenceError", "ValueError"]), ("InvalidSyntax", ["InvalidSyntax", "FenceError", "ValueError"])]
abbrev clss : List Str := []
abbrev atts : List Str := []
structure Bn (K : PySem.W.Frag) (mg : Str → Option Value) : Prop where
  ck : ∀ C ∈ clss, ClsK ⟨K, mg⟩ C atts
  b_abs : mg "abs" = none
  b_all : mg "all" = none
  b_bool : mg "bool" = none
  b_enumerate : mg "enumerate" = none
  b_int : mg "int" = none
  b_isinstance : mg "isinstance" = none
  b_len : mg "len" = none
  b_list : mg "list" = none
  b_min : mg "min" = none
  b_range : mg "range" = none
  b_str : mg "str" = none
  b_tuple : mg "tuple" = none
  b_zip : mg "zip" = none
  k_MOST_AROUND : ∃ t, mg "MOST_AROUND" = some (.int 10 t)
  k_MOST_DIGITS : ∃ t, mg "MOST_DIGITS" = some (.int 200 t)
  k_MOST_PARTS : ∃ t, mg "MOST_PARTS" = some (.int 30 t)
  k_MOST_PLACE : ∃ t, mg "MOST_PLACE" = some (.int 1000000000000000000000000000000 t)
  k_MOST_ROWS : ∃ t, mg "MOST_ROWS" = some (.int 30 t)
  k_MOVE_WORDS : ∃ t, mg "MOVE_WORDS" = some (.int 6 t)
abbrev s_is_integer : Stmt := (top 11)
abbrev n_is_integer : List Str := ["value"]
abbrev p_is_integer : List Str := ["value"]
theorem sc_is_integer : FnScope n_is_integer p_is_integer (defScope s_is_integer) := ⟨rfl, rfl, rfl, by decide +kernel, rfl, by decide +kernel, by decide +kernel⟩
def m_is_integer : MS := (mRet (mAndV (mCB gIsi (mCons (mVw 0) (mCons (mC (.ty "int")) mNil))) (mNotV (mCB gIsi (mCons (mVw 0) (mCons (mC (.ty "bool")) mNil))))))
def F_is_integer : FP := fP 1 1 m_is_integer
theorem ok_is_integer {P : Program} {w : World} {K : PySem.W.Frag} {mg : Str → Option Value} {base : Heap} {f : Addr} {fd : FuncData} (B : Bn K mg) (F : FnP K "is_integer" "is_integer" s_is_integer f fd) : FnG P w K mg base 1 f fd p_is_integer (spP ⟨K, mg⟩ F_is_integer) :=
  fn_pureG F sc_is_integer (by decide) fun cdv A hG outer s H E hr tk po => (
    (ss_one (s_ret (ps_ret (e_and (e_callB call_isi rd_isi rfl B.b_isinstance boot_isinstance (w_cons (v_var (pv 0)) (w_cons (e_v (e_ty rfl B.b_int boot_int)) w_nil))) (e_one (e_not (e_callB call_isi rd_isi rfl B.b_isinstance boot_isinstance (w_cons (v_var (pv 0)) (w_cons (e_v (e_ty rfl B.b_bool boot_bool)) w_nil))))))))))
abbrev s_is_between : Stmt := (top 12)
abbrev n_is_between : List Str := ["value", "least", "most"]
abbrev p_is_between : List Str := ["value", "least", "most"]
theorem sc_is_between : FnScope n_is_between p_is_between (defScope s_is_between) := ⟨rfl, rfl, rfl, by decide +kernel, rfl, by decide +kernel, by decide +kernel⟩
def m_is_between : MS := (mRet (mAndV (mCall F_is_integer (mCons (mVar 0) mNil)) (mChain gLeA gLeA (mVw 1) (mVw 0) (mVw 2))))
def F_is_between : FP := fP 3 3 m_is_between
theorem ok_is_between {P : Program} {w : World} {K : PySem.W.Frag} {mg : Str → Option Value} {base : Heap} {f : Addr} {fd : FuncData} (B : Bn K mg) (F : FnP K "is_between" "is_between" s_is_between f fd) (c_is_integer : Card P w K mg base "is_integer" p_is_integer 1 (spP ⟨K, mg⟩ F_is_integer)) : FnG P w K mg base 2 f fd p_is_between (spP ⟨K, mg⟩ F_is_between) :=
  fn_pureG F sc_is_between (by decide) fun cdv A hG outer s H E hr tk po => (
    (ss_one (s_ret (ps_ret (e_and (e_card c_is_integer hr (by decide) hG (pz_of tk) rfl (a_cons (e_var (pv 0)) a_nil)) (e_one (e_chain (op_or op_le (op_leT hr.units0)) (op_or op_le (op_leT hr.units0)) rd_leA rd_leA (v_var (pv 1)) (v_var (pv 0)) (v_var (pv 2)))))))))
abbrev s_turn_at : Stmt := (top 16)
abbrev n_turn_at : List Str := ["one", "two", "three"]
abbrev p_turn_at : List Str := ["one", "two", "three"]
theorem sc_turn_at : FnScope n_turn_at p_turn_at (defScope s_turn_at) := ⟨rfl, rfl, rfl, by decide +kernel, rfl, by decide +kernel, by decide +kernel⟩
def m_turn_at : MS := (mRet (mBin gSub (mBin gMul (mBin gSub (mBin gIx (mVw 1) (mC (.int 0))) (mBin gIx (mVw 0) (mC (.int 0)))) (mBin gSub (mBin gIx (mVw 2) (mC (.int 1))) (mBin gIx (mVw 0) (mC (.int 1))))) (mBin gMul (mBin gSub (mBin gIx (mVw 1) (mC (.int 1))) (mBin gIx (mVw 0) (mC (.int 1)))) (mBin gSub (mBin gIx (mVw 2) (mC (.int 0))) (mBin gIx (mVw 0) (mC (.int 0)))))))
def F_turn_at : FP := fP 3 3 m_turn_at
theorem ok_turn_at {P : Program} {w : World} {K : PySem.W.Frag} {mg : Str → Option Value} {base : Heap} {f : Addr} {fd : FuncData} (B : Bn K mg) (F : FnP K "turn_at" "turn_at" s_turn_at f fd) : FnG P w K mg base 1 f fd p_turn_at (spP ⟨K, mg⟩ F_turn_at) :=
  fn_pureG F sc_turn_at (by decide) fun cdv A hG outer s H E hr tk po => (
    (ss_one (s_ret (ps_ret (e_bin op_sub rd_sub (e_v (e_bin op_mulW rd_mul (e_v (e_bin op_sub rd_sub (e_v (e_ix ix_seq rd_ix (v_var (pv 1)) (e_v e_int))) (e_v (e_ix ix_seq rd_ix (v_var (pv 0)) (e_v e_int))))) (e_v (e_bin op_sub rd_sub (e_v (e_ix ix_seq rd_ix (v_var (pv 2)) (e_v e_int))) (e_v (e_ix ix_seq rd_ix (v_var (pv 0)) (e_v e_int))))))) (e_v (e_bin op_mulW rd_mul (e_v (e_bin op_sub rd_sub (e_v (e_ix ix_seq rd_ix (v_var (pv 1)) (e_v e_int))) (e_v (e_ix ix_seq rd_ix (v_var (pv 0)) (e_v e_int))))) (e_v (e_bin op_sub rd_sub (e_v (e_ix ix_seq rd_ix (v_var (pv 2)) (e_v e_int))) (e_v (e_ix ix_seq rd_ix (v_var (pv 0)) (e_v e_int))))))))))))
abbrev s_are_around : Stmt := (top 18)
abbrev n_are_around : List Str := ["corners", "many", "place", "one", "two", "three"]
abbrev p_are_around : List Str := ["corners"]
theorem sc_are_around : FnScope n_are_around p_are_around (defScope s_are_around) := ⟨rfl, rfl, rfl, by decide +kernel, rfl, by decide +kernel, by decide +kernel⟩
def m_are_around : MS := (mSeq (mSet 1 (mCB gLen (mCons (mVw 0) mNil))) (mSeq (mIfS (mTest (mBin gNeA (mCB gMinA (mCons (mVw 0) mNil)) (mBin gIx (mVw 0) (mC (.int 0))))) (mRet (mC (.bl false))) mNext) (mSeq (mFor (iR1 (mCons (mVar 1) mNil)) (gNm 2) (mPost [2, 3, 4, 5] (mSeq (mPar3 3 4 5 (mCons (mBin gIx (mVw 0) (mVw 2)) (mCons (mBin gIx (mVw 0) (mBin gMod (mBin gAdd (mVw 2) (mC (.int 1))) (mVw 1))) (mCons (mBin gIx (mVw 0) (mBin gMod (mBin gAdd (mVw 2) (mC (.int 2))) (mVw 1))) mNil)))) (mIfS (mTest (mBin gLeA (mCall F_turn_at (mCons (mVar 3) (mCons (mVar 4) (mCons (mVar 5) mNil)))) (mC (.int 0)))) (mRet (mC (.bl false))) mNext)))) (mRet (mCB gAll (mCons (mOfL (mLc (iZp (mCons (mOfL (mCut (mVw 0) (mSome (mC (.int 1))) mNo)) (mCons (mOfL (mCut (mVw 0) (mSome (mC (.int 2))) mNo)) mNil))) (gTp 2 (gsCons (gNm 3) (gsCons (gNm 4) gsNil))) mYes (mBin gGt (mCall F_turn_at (mCons (mBin gIx (mVw 0) (mC (.int 0))) (mCons (mVar 3) (mCons (mVar 4) mNil)))) (mC (.int 0))) [3, 4])) mNil))))))
def F_are_around : FP := fP 6 1 m_are_around
theorem ok_are_around {P : Program} {w : World} {K : PySem.W.Frag} {mg : Str → Option Value} {base : Heap} {f : Addr} {fd : FuncData} (B : Bn K mg) (F : FnP K "are_around" "are_around" s_are_around f fd) (c_turn_at : Card P w K mg base "turn_at" p_turn_at 1 (spP ⟨K, mg⟩ F_turn_at)) : FnG P w K mg base 2 f fd p_are_around (spP ⟨K, mg⟩ F_are_around) :=
  fn_pureG F sc_are_around (by decide) fun cdv A hG outer s H E hr tk po => (
    (ss_cons (s_set (ps_set (i := 1) sc_are_around.nd rfl (Or.inl rfl) (e_callB call_len_seq rd_len rfl B.b_len boot_len (w_cons (v_var (pv 0)) w_nil))))
      (ss_cons (s_if (ps_if (t_cmp (op_or op_ne (op_neD hr.units)) rd_neA (e_v (e_callB (cr_or (cr_min rfl) (cr_minP rfl (hu100 hr))) rd_minA rfl B.b_min boot_min (w_cons (v_var (pv 0)) w_nil))) (e_v (e_ix ix_seq rd_ix (v_var (pv 0)) (e_v e_int))) (nomark _)) (ss_one (s_ret (ps_ret e_bl))) ss_nil))
      (ss_cons (s_for (ps_for po rfl (i_r1 (pi_range1 rfl B.b_range (a_cons (e_var (pv 1)) a_nil))) (pg_name (i := 2) sc_are_around.nd rfl (Or.inl rfl)) (ss_post (ss_cons (s_par3A (ps_par3 rfl sc_are_around.nd rfl rfl rfl (by decide) (by decide) (by decide) rfl rfl rfl (a_cons (e_ix ix_seq rd_ix (v_var (pv 0)) (v_var (pv 2))) (a_cons (e_ix ix_seq rd_ix (v_var (pv 0)) (e_v (e_bin op_mod rd_mod (e_v (e_bin op_add rd_add (v_var (pv 2)) (e_v e_int))) (v_var (pv 1))))) (a_cons (e_ix ix_seq rd_ix (v_var (pv 0)) (e_v (e_bin op_mod rd_mod (e_v (e_bin op_add rd_add (v_var (pv 2)) (e_v e_int))) (v_var (pv 1))))) a_nil))) rfl))
      (ss_one (s_if (ps_if (t_cmp (op_or op_le (op_leT hr.units0)) rd_leA (e_v (e_card c_turn_at hr (by decide) hG (pz_of tk) rfl (a_cons (e_var (pv 3)) (a_cons (e_var (pv 4)) (a_cons (e_var (pv 5)) a_nil))))) (e_v e_int) (nomark _)) (ss_one (s_ret (ps_ret e_bl))) ss_nil)))))) rg_name)
      (ss_one (s_ret (ps_ret (e_callB (cr_all rfl) rd_all rfl B.b_all boot_all (w_cons (e_v (e_f (f_lc (pe_lc (own := [("one", 3), ("two", 4)]) (g := (gTup _ 2 (gCons (gName 3) (gCons (gName 4) gNil)))) rfl sc_are_around.nd (i_zip (pi_zip rfl B.b_zip (a_cons (e_f (f_cut (v_var (pv 0)) (o_some e_int) o_no)) (a_cons (e_f (f_cut (v_var (pv 0)) (o_some e_int) o_no)) a_nil)))) (blkOk_by (own := [("one", 3), ("two", 4)]) (N := n_are_around) (sc := defScope s_are_around) (by decide +kernel)) (fun _ _ _ _ _ => (pg_tup rfl (pgs_cons (pg_name (i := 3) sc_are_around.nd rfl (Or.inl rfl)) (pgs_cons (pg_name (i := 4) sc_are_around.nd rfl (Or.inl rfl)) pgs_nil)))) (fun _ _ _ _ _ => t_yes) (fun _ _ _ _ _ => (e_cmp op_gt rd_gt (e_v (e_card c_turn_at hr (by decide) hG pz0 rfl (a_cons (e_ix ix_seq rd_ix (v_var (pv 0)) (e_v e_int)) (a_cons (e_var (pv 3)) (a_cons (e_var (pv 4)) a_nil))))) (e_v e_int) (nomark _)))) (rg_tup (rgs_cons rg_name (rgs_cons rg_name rgs_nil))) (hw_tup (hws_cons (by decide) (hws_cons (by decide) hws_nil)))))) w_nil)))))))))
abbrev s_are_integers : Stmt := (top 13)
abbrev n_are_integers : List Str := ["value", "many", "item"]
abbrev p_are_integers : List Str := ["value", "many"]
theorem sc_are_integers : FnScope n_are_integers p_are_integers (defScope s_are_integers) := ⟨rfl, rfl, rfl, by decide +kernel, rfl, by decide +kernel, by decide +kernel⟩
def m_are_integers : MS := (mRet (mAndV (mCB gIsi (mCons (mVw 0) (mCons (mC (.ty "tuple")) mNil))) (mAndV (mBin gEqA (mCB gLen (mCons (mVw 0) mNil)) (mVw 1)) (mCB gAll (mCons (mOfL (mLc (iSeq (mVar 0)) (gNm 2) mYes (mCall F_is_integer (mCons (mVar 2) mNil)) [2])) mNil)))))
def F_are_integers : FP := fP 3 2 m_are_integers
theorem ok_are_integers {P : Program} {w : World} {K : PySem.W.Frag} {mg : Str → Option Value} {base : Heap} {f : Addr} {fd : FuncData} (B : Bn K mg) (F : FnP K "are_integers" "are_integers" s_are_integers f fd) (c_is_integer : Card P w K mg base "is_integer" p_is_integer 1 (spP ⟨K, mg⟩ F_is_integer)) : FnG P w K mg base 2 f fd p_are_integers (spP ⟨K, mg⟩ F_are_integers) :=
  fn_pureG F sc_are_integers (by decide) fun cdv A hG outer s H E hr tk po => (
    (ss_one (s_ret (ps_ret (e_and (e_callB call_isi rd_isi rfl B.b_isinstance boot_isinstance (w_cons (v_var (pv 0)) (w_cons (e_v (e_ty rfl B.b_tuple boot_tuple)) w_nil))) (e_and (e_cmp (op_or op_eq (op_eqD hr.units)) rd_eqA (e_v (e_callB call_len_seq rd_len rfl B.b_len boot_len (w_cons (v_var (pv 0)) w_nil))) (v_var (pv 1)) (nomark _)) (e_one (e_callB (cr_all rfl) rd_all rfl B.b_all boot_all (w_cons (e_v (e_f (f_lc (pe_lc (own := [("item", 2)]) (g := (gName 2)) rfl sc_are_integers.nd (i_seq (pi_list (e_var (pv 0))) (pi_tup (e_var (pv 0)))) (blkOk_by (own := [("item", 2)]) (N := n_are_integers) (sc := defScope s_are_integers) (by decide +kernel)) (fun _ _ _ _ _ => (pg_name (i := 2) sc_are_integers.nd rfl (Or.inl rfl))) (fun _ _ _ _ _ => t_yes) (fun _ _ _ _ _ => (e_card c_is_integer hr (by decide) hG pz0 rfl (a_cons (e_var (pv 2)) a_nil)))) rg_name (hw_name (by decide))))) w_nil)))))))))
abbrev s_is_place : Stmt := (top 17)
abbrev n_is_place : List Str := ["value", "item"]
abbrev p_is_place : List Str := ["value"]
theorem sc_is_place : FnScope n_is_place p_is_place (defScope s_is_place) := ⟨rfl, rfl, rfl, by decide +kernel, rfl, by decide +kernel, by decide +kernel⟩
def m_is_place : MS := (mRet (mAndV (mCall F_are_integers (mCons (mVar 0) (mCons (mC (.int 2)) mNil))) (mCB gAll (mCons (mOfL (mLc (iSeq (mVar 0)) (gNm 1) mYes (mBin gLeA (mCB gAbs (mCons (mVw 1) mNil)) (mC (.int 1000000000000000000000000000000))) [1])) mNil))))
def F_is_place : FP := fP 2 1 m_is_place
theorem ok_is_place {P : Program} {w : World} {K : PySem.W.Frag} {mg : Str → Option Value} {base : Heap} {f : Addr} {fd : FuncData} (B : Bn K mg) (F : FnP K "is_place" "is_place" s_is_place f fd) (c_are_integers : Card P w K mg base "are_integers" p_are_integers 2 (spP ⟨K, mg⟩ F_are_integers)) : FnG P w K mg base 3 f fd p_is_place (spP ⟨K, mg⟩ F_is_place) :=
  fn_pureG F sc_is_place (by decide) fun cdv A hG outer s H E hr tk po => (
    (ss_one (s_ret (ps_ret (e_and (e_card c_are_integers hr (by decide) hG (pz_of tk) rfl (a_cons (e_var (pv 0)) (a_cons e_int a_nil))) (e_one (e_callB (cr_all rfl) rd_all rfl B.b_all boot_all (w_cons (e_v (e_f (f_lc (pe_lc (own := [("item", 1)]) (g := (gName 1)) rfl sc_is_place.nd (i_seq (pi_list (e_var (pv 0))) (pi_tup (e_var (pv 0)))) (blkOk_by (own := [("item", 1)]) (N := n_is_place) (sc := defScope s_is_place) (by decide +kernel)) (fun _ _ _ _ _ => (pg_name (i := 1) sc_is_place.nd rfl (Or.inl rfl))) (fun _ _ _ _ _ => t_yes) (fun _ _ _ _ _ => (e_cmp (op_or op_le (op_leT hr.units0)) rd_leA (e_v (e_callB call_abs rd_abs rfl B.b_abs boot_abs (w_cons (v_var (pv 1)) w_nil))) (e_v (e_globx rfl B.k_MOST_PLACE)) (nomark _)))) rg_name (hw_name (by decide))))) w_nil))))))))
abbrev s_are_corners : Stmt := (top 19)
abbrev n_are_corners : List Str := ["value", "item"]
abbrev p_are_corners : List Str := ["value"]
theorem sc_are_corners : FnScope n_are_corners p_are_corners (defScope s_are_corners) := ⟨rfl, rfl, rfl, by decide +kernel, rfl, by decide +kernel, by decide +kernel⟩
def m_are_corners : MS := (mSeq (mIfS (mOr (mNot (mTest (mCB gIsi (mCons (mVw 0) (mCons (mC (.ty "list")) mNil))))) (mOr (mNot (mTest (mChain gLeA gLeA (mC (.int 1)) (mCB gLen (mCons (mVw 0) mNil)) (mC (.int 10))))) (mNot (mTest (mCB gAll (mCons (mOfL (mLc (iSeq (mVar 0)) (gNm 1) mYes (mCall F_is_place (mCons (mVar 1) mNil)) [1])) mNil)))))) (mRet (mC (.bl false))) mNext) (mSeq (mIfS (mTest (mBin gLtA (mCB gLen (mCons (mVw 0) mNil)) (mC (.int 3)))) (mRet (mOrV (mBin gEqA (mCB gLen (mCons (mVw 0) mNil)) (mC (.int 1))) (mBin gLtA (mBin gIx (mVw 0) (mC (.int 0))) (mBin gIx (mVw 0) (mC (.int 1)))))) mNext) (mRet (mCall F_are_around (mCons (mVar 0) mNil)))))
def F_are_corners : FP := fP 2 1 m_are_corners
theorem ok_are_corners {P : Program} {w : World} {K : PySem.W.Frag} {mg : Str → Option Value} {base : Heap} {f : Addr} {fd : FuncData} (B : Bn K mg) (F : FnP K "are_corners" "are_corners" s_are_corners f fd) (c_are_around : Card P w K mg base "are_around" p_are_around 2 (spP ⟨K, mg⟩ F_are_around)) (c_is_place : Card P w K mg base "is_place" p_is_place 3 (spP ⟨K, mg⟩ F_is_place)) : FnG P w K mg base 4 f fd p_are_corners (spP ⟨K, mg⟩ F_are_corners) :=
  fn_pureG F sc_are_corners (by decide) fun cdv A hG outer s H E hr tk po => (
    (ss_cons (s_if (ps_if (L2.PW.pt (w_or (t_not (t_val (e_callB call_isi rd_isi rfl B.b_isinstance boot_isinstance (w_cons (v_var (pv 0)) (w_cons (e_v (e_ty rfl B.b_list boot_list)) w_nil))))) (w_or (t_not (t_chain (op_or op_le (op_leT hr.units0)) (op_or op_le (op_leT hr.units0)) rd_leA rd_leA (e_v e_int) (e_v (e_callB call_len_seq rd_len rfl B.b_len boot_len (w_cons (v_var (pv 0)) w_nil))) (e_v (e_globx rfl B.k_MOST_AROUND)))) (w_or1 (t_not (t_val (e_callB (cr_all rfl) rd_all rfl B.b_all boot_all (w_cons (e_v (e_f (f_lc (pe_lc (own := [("item", 1)]) (g := (gName 1)) rfl sc_are_corners.nd (i_seq (pi_list (e_var (pv 0))) (pi_tup (e_var (pv 0)))) (blkOk_by (own := [("item", 1)]) (N := n_are_corners) (sc := defScope s_are_corners) (by decide +kernel)) (fun _ _ _ _ _ => (pg_name (i := 1) sc_are_corners.nd rfl (Or.inl rfl))) (fun _ _ _ _ _ => t_yes) (fun _ _ _ _ _ => (e_card c_is_place hr (by decide) hG pz0 rfl (a_cons (e_var (pv 1)) a_nil)))) rg_name (hw_name (by decide))))) w_nil)))))))) (ss_one (s_ret (ps_ret e_bl))) ss_nil))
      (ss_cons (s_if (ps_if (t_cmp (op_or op_lt (op_ltT hr.units0)) rd_ltA (e_v (e_callB call_len_seq rd_len rfl B.b_len boot_len (w_cons (v_var (pv 0)) w_nil))) (e_v e_int) (nomark _)) (ss_one (s_ret (ps_ret (e_or (e_cmp (op_or op_eq (op_eqD hr.units)) rd_eqA (e_v (e_callB call_len_seq rd_len rfl B.b_len boot_len (w_cons (v_var (pv 0)) w_nil))) (e_v e_int) (nomark _)) (e_one (e_cmp (op_or op_lt (op_ltT hr.units0)) rd_ltA (e_v (e_ix ix_seq rd_ix (v_var (pv 0)) (e_v e_int))) (e_v (e_ix ix_seq rd_ix (v_var (pv 0)) (e_v e_int))) (nomark _))))))) ss_nil))
      (ss_one (s_ret (ps_ret (e_card c_are_around hr (by decide) hG (pz_of tk) rfl (a_cons (e_var (pv 0)) a_nil))))))))
abbrev s_are_sides : Stmt := (top 21)
abbrev n_are_sides : List Str := ["value", "many", "one", "other", "item"]
abbrev p_are_sides : List Str := ["value", "many"]
theorem sc_are_sides : FnScope n_are_sides p_are_sides (defScope s_are_sides) := ⟨rfl, rfl, rfl, by decide +kernel, rfl, by decide +kernel, by decide +kernel⟩
def m_are_sides : MS := (mSeq (mIfS (mOr (mNot (mTest (mCB gIsi (mCons (mVw 0) (mCons (mC (.ty "list")) mNil))))) (mNot (mTest (mCB gAll (mCons (mOfL (mLc (iSeq (mVar 0)) (gNm 4) mYes (mCall F_is_between (mCons (mVar 4) (mCons (mC (.int 0)) (mCons (mBin gSub (mVw 1) (mC (.int 1))) mNil)))) [4])) mNil))))) (mRet (mC (.bl false))) mNext) (mRet (mCB gAll (mCons (mOfL (mLc (iZp (mCons (mVar 0) (mCons (mOfL (mCut (mVw 0) (mSome (mC (.int 1))) mNo)) mNil))) (gTp 2 (gsCons (gNm 2) (gsCons (gNm 3) gsNil))) mYes (mBin gLtA (mVw 2) (mVw 3)) [2, 3])) mNil))))
def F_are_sides : FP := fP 5 2 m_are_sides
theorem ok_are_sides {P : Program} {w : World} {K : PySem.W.Frag} {mg : Str → Option Value} {base : Heap} {f : Addr} {fd : FuncData} (B : Bn K mg) (F : FnP K "are_sides" "are_sides" s_are_sides f fd) (c_is_between : Card P w K mg base "is_between" p_is_between 2 (spP ⟨K, mg⟩ F_is_between)) : FnG P w K mg base 3 f fd p_are_sides (spP ⟨K, mg⟩ F_are_sides) :=
  fn_pureG F sc_are_sides (by decide) fun cdv A hG outer s H E hr tk po => (
    (ss_cons (s_if (ps_if (L2.PW.pt (w_or (t_not (t_val (e_callB call_isi rd_isi rfl B.b_isinstance boot_isinstance (w_cons (v_var (pv 0)) (w_cons (e_v (e_ty rfl B.b_list boot_list)) w_nil))))) (w_or1 (t_not (t_val (e_callB (cr_all rfl) rd_all rfl B.b_all boot_all (w_cons (e_v (e_f (f_lc (pe_lc (own := [("item", 4)]) (g := (gName 4)) rfl sc_are_sides.nd (i_seq (pi_list (e_var (pv 0))) (pi_tup (e_var (pv 0)))) (blkOk_by (own := [("item", 4)]) (N := n_are_sides) (sc := defScope s_are_sides) (by decide +kernel)) (fun _ _ _ _ _ => (pg_name (i := 4) sc_are_sides.nd rfl (Or.inl rfl))) (fun _ _ _ _ _ => t_yes) (fun _ _ _ _ _ => (e_card c_is_between hr (by decide) hG pz0 rfl (a_cons (e_var (pv 4)) (a_cons e_int (a_cons (e_bin op_sub rd_sub (v_var (pv 1)) (e_v e_int)) a_nil)))))) rg_name (hw_name (by decide))))) w_nil))))))) (ss_one (s_ret (ps_ret e_bl))) ss_nil))
      (ss_one (s_ret (ps_ret (e_callB (cr_all rfl) rd_all rfl B.b_all boot_all (w_cons (e_v (e_f (f_lc (pe_lc (own := [("one", 2), ("other", 3)]) (g := (gTup _ 2 (gCons (gName 2) (gCons (gName 3) gNil)))) rfl sc_are_sides.nd (i_zip (pi_zip rfl B.b_zip (a_cons (e_var (pv 0)) (a_cons (e_f (f_cut (v_var (pv 0)) (o_some e_int) o_no)) a_nil)))) (blkOk_by (own := [("one", 2), ("other", 3)]) (N := n_are_sides) (sc := defScope s_are_sides) (by decide +kernel)) (fun _ _ _ _ _ => (pg_tup rfl (pgs_cons (pg_name (i := 2) sc_are_sides.nd rfl (Or.inl rfl)) (pgs_cons (pg_name (i := 3) sc_are_sides.nd rfl (Or.inl rfl)) pgs_nil)))) (fun _ _ _ _ _ => t_yes) (fun _ _ _ _ _ => (e_cmp (op_or op_lt (op_ltT hr.units0)) rd_ltA (v_var (pv 2)) (v_var (pv 3)) (nomark _)))) (rg_tup (rgs_cons rg_name (rgs_cons rg_name rgs_nil))) (hw_tup (hws_cons (by decide) (hws_cons (by decide) hws_nil)))))) w_nil)))))))
abbrev s_sides_of : Stmt := (top 20)
abbrev n_sides_of : List Str := ["corners"]
abbrev p_sides_of : List Str := ["corners"]
theorem sc_sides_of : FnScope n_sides_of p_sides_of (defScope s_sides_of) := ⟨rfl, rfl, rfl, by decide +kernel, rfl, by decide +kernel, by decide +kernel⟩
def m_sides_of : MS := (mRet (mIf (mTest (mBin gGt (mCB gLen (mCons (mVw 0) mNil)) (mC (.int 1)))) (mCB gLen (mCons (mVw 0) mNil)) (mC (.int 0))))
def F_sides_of : FP := fP 1 1 m_sides_of
theorem ok_sides_of {P : Program} {w : World} {K : PySem.W.Frag} {mg : Str → Option Value} {base : Heap} {f : Addr} {fd : FuncData} (B : Bn K mg) (F : FnP K "sides_of" "sides_of" s_sides_of f fd) : FnG P w K mg base 1 f fd p_sides_of (spP ⟨K, mg⟩ F_sides_of) :=
  fn_pureG F sc_sides_of (by decide) fun cdv A hG outer s H E hr tk po => (
    (ss_one (s_ret (ps_ret (e_if (t_cmp op_gt rd_gt (e_v (e_callB call_len_seq rd_len rfl B.b_len boot_len (w_cons (v_var (pv 0)) w_nil))) (e_v e_int) (nomark _)) (e_callB call_len_seq rd_len rfl B.b_len boot_len (w_cons (v_var (pv 0)) w_nil)) e_int)))))
abbrev s_fence_fault : Stmt := (top 22)
abbrev n_fence_fault : List Str := ["value"]
abbrev p_fence_fault : List Str := ["value"]
theorem sc_fence_fault : FnScope n_fence_fault p_fence_fault (defScope s_fence_fault) := ⟨rfl, rfl, rfl, by decide +kernel, rfl, by decide +kernel, by decide +kernel⟩
def m_fence_fault : MS := (mSeq (mIfS (mOr (mNot (mTest (mCB gIsi (mCons (mVw 0) (mCons (mC (.ty "tuple")) mNil))))) (mTest (mBin gNeA (mCB gLen (mCons (mVw 0) mNil)) (mC (.int 3))))) (mRet (mTup (mCons (mC .non) mNil))) mNext) (mSeq (mIfS (mNot (mTest (mCall F_is_between (mCons (mBin gIx (mVw 0) (mC (.int 0))) (mCons (mC (.int 1)) (mCons (mC (.int 30)) mNil)))))) (mRet (mTup (mCons (mC (.str "bottom")) mNil))) mNext) (mSeq (mIfS (mNot (mTest (mCall F_are_corners (mCons (mBin gIx (mVw 0) (mC (.int 1))) mNil)))) (mRet (mTup (mCons (mC (.str "corners")) mNil))) mNext) (mRet (mIf (mTest (mCall F_are_sides (mCons (mBin gIx (mVw 0) (mC (.int 2))) (mCons (mCall F_sides_of (mCons (mBin gIx (mVw 0) (mC (.int 1))) mNil)) mNil)))) (mTup mNil) (mTup (mCons (mC (.str "sides")) mNil)))))))
def F_fence_fault : FP := fP 1 1 m_fence_fault
theorem ok_fence_fault {P : Program} {w : World} {K : PySem.W.Frag} {mg : Str → Option Value} {base : Heap} {f : Addr} {fd : FuncData} (B : Bn K mg) (F : FnP K "fence_fault" "fence_fault" s_fence_fault f fd) (c_is_between : Card P w K mg base "is_between" p_is_between 2 (spP ⟨K, mg⟩ F_is_between)) (c_are_corners : Card P w K mg base "are_corners" p_are_corners 4 (spP ⟨K, mg⟩ F_are_corners)) (c_are_sides : Card P w K mg base "are_sides" p_are_sides 3 (spP ⟨K, mg⟩ F_are_sides)) (c_sides_of : Card P w K mg base "sides_of" p_sides_of 1 (spP ⟨K, mg⟩ F_sides_of)) : FnG P w K mg base 5 f fd p_fence_fault (spP ⟨K, mg⟩ F_fence_fault) :=
  fn_pureG F sc_fence_fault (by decide) fun cdv A hG outer s H E hr tk po => (
    (ss_cons (s_if (ps_if (L2.PW.pt (w_or (t_not (t_val (e_callB call_isi rd_isi rfl B.b_isinstance boot_isinstance (w_cons (v_var (pv 0)) (w_cons (e_v (e_ty rfl B.b_tuple boot_tuple)) w_nil))))) (w_or1 (t_cmp (op_or op_ne (op_neD hr.units)) rd_neA (e_v (e_callB call_len_seq rd_len rfl B.b_len boot_len (w_cons (v_var (pv 0)) w_nil))) (e_v e_int) (nomark _))))) (ss_one (s_ret (ps_ret (e_tup (a_cons e_non a_nil))))) ss_nil))
      (ss_cons (s_if (ps_if (t_not (t_val (e_card c_is_between hr (by decide) hG (pz_of tk) rfl (a_cons (e_ix ix_seq rd_ix (v_var (pv 0)) (e_v e_int)) (a_cons e_int (a_cons (e_globx rfl B.k_MOST_PARTS) a_nil)))))) (ss_one (s_ret (ps_ret (e_tup (a_cons e_str a_nil))))) ss_nil))
      (ss_cons (s_if (ps_if (t_not (t_val (e_card c_are_corners hr (by decide) hG (pz_of tk) rfl (a_cons (e_ix ix_seq rd_ix (v_var (pv 0)) (e_v e_int)) a_nil)))) (ss_one (s_ret (ps_ret (e_tup (a_cons e_str a_nil))))) ss_nil))
      (ss_one (s_ret (ps_ret (e_if (t_val (e_card c_are_sides hr (by decide) hG (pz_of tk) rfl (a_cons (e_ix ix_seq rd_ix (v_var (pv 0)) (e_v e_int)) (a_cons (e_card c_sides_of hr (by decide) hG (pz_of tk) rfl (a_cons (e_ix ix_seq rd_ix (v_var (pv 0)) (e_v e_int)) a_nil)) a_nil)))) (e_tup a_nil) (e_tup (a_cons e_str a_nil))))))))))
abbrev s_require_fence : Stmt := (top 26)
abbrev n_require_fence : List Str := ["fence", "fault"]
abbrev p_require_fence : List Str := ["fence"]
theorem sc_require_fence : FnScope n_require_fence p_require_fence (defScope s_require_fence) := ⟨rfl, rfl, rfl, by decide +kernel, rfl, by decide +kernel, by decide +kernel⟩
def m_require_fence : MS := (mSeq (mSet 1 (mCall F_fence_fault (mCons (mVar 0) mNil))) (mIfS (mTest (mBin gNeA (mVw 1) (mTup mNil))) mNever mNext))
def F_require_fence : FP := fP 2 1 m_require_fence
theorem ok_require_fence {P : Program} {w : World} {K : PySem.W.Frag} {mg : Str → Option Value} {base : Heap} {f : Addr} {fd : FuncData} (B : Bn K mg) (F : FnP K "require_fence" "require_fence" s_require_fence f fd) (c_fence_fault : Card P w K mg base "fence_fault" p_fence_fault 5 (spP ⟨K, mg⟩ F_fence_fault)) : FnG P w K mg base 6 f fd p_require_fence (spP ⟨K, mg⟩ F_require_fence) :=
  fn_pureG F sc_require_fence (by decide) fun cdv A hG outer s H E hr tk po => (
    (ss_cons (s_set (ps_set (i := 1) sc_require_fence.nd rfl (Or.inl rfl) (e_card c_fence_fault hr (by decide) hG (pz_of tk) rfl (a_cons (e_var (pv 0)) a_nil))))
      (ss_one (s_if (ps_if (t_cmp (op_or op_ne (op_neD hr.units)) rd_neA (v_var (pv 1)) (e_v (e_tup a_nil)) (nomark _)) (ss_one s_never) ss_nil)))))
abbrev s_format_fence : Stmt := (top 36)
abbrev n_format_fence : List Str := ["fence", "bottom", "corners", "sides", "words", "x", "y", "side"]
abbrev p_format_fence : List Str := ["fence"]
theorem sc_format_fence : FnScope n_format_fence p_format_fence (defScope s_format_fence) := ⟨rfl, rfl, rfl, by decide +kernel, rfl, by decide +kernel, by decide +kernel⟩
def m_format_fence : MS := (mSeq (mDrop (mCall F_require_fence (mCons (mVar 0) mNil))) (mSeq (mAsg (mVar 0) (gTp 3 (gsCons (gNm 1) (gsCons (gNm 2) (gsCons (gNm 3) gsNil))))) (mSeq (mOwn 4 (mCat (mOfL (mNew (mCons ((mJ1 (mUn gFmt (mVar 1)) (mJ1 (mC (.str ":")) mJ0)) Str.empty) mNil))) (mOfL (mLc (iSeq (mVar 2)) (gTp 2 (gsCons (gNm 5) (gsCons (gNm 6) gsNil))) mYes ((mJ1 (mUn gFmt (mVar 5)) (mJ1 (mC (.str ",")) (mJ1 (mUn gFmt (mVar 6)) mJ0))) Str.empty) [5, 6])))) (mSeq (mIfS (mTest (mBin gNeA (mVw 3) (mOfL (mNew mNil)))) (mExt 4 (mCat (mOfL (mNew (mCons (mC (.str "/")) mNil))) (mOfL (mLc (iSeq (mVar 3)) (gNm 7) mYes (mCB gStr (mCons (mVw 7) mNil)) [7])))) mNext) (mRet (mUn (gJoin " ") (mVw 4)))))))
def F_format_fence : FP := fP 8 1 m_format_fence
theorem ok_format_fence {P : Program} {w : World} {K : PySem.W.Frag} {mg : Str → Option Value} {base : Heap} {f : Addr} {fd : FuncData} (B : Bn K mg) (F : FnP K "format_fence" "format_fence" s_format_fence f fd) (c_require_fence : Card P w K mg base "require_fence" p_require_fence 6 (spP ⟨K, mg⟩ F_require_fence)) : FnG P w K mg base 7 f fd p_format_fence (spP ⟨K, mg⟩ F_format_fence) :=
  fn_pureG F sc_format_fence (by decide) fun cdv A hG outer s H E hr tk po => (
    (ss_cons (s_drop (ps_expr (e_card c_require_fence hr (by decide) hG (pz_of tk) rfl (a_cons (e_var (pv 0)) a_nil))))
      (ss_cons (s_asg (ps_asg (e_var (pv 0)) (pg_tup rfl (pgs_cons (pg_name (i := 1) sc_format_fence.nd rfl (Or.inl rfl)) (pgs_cons (pg_name (i := 2) sc_format_fence.nd rfl (Or.inl rfl)) (pgs_cons (pg_name (i := 3) sc_format_fence.nd rfl (Or.inl rfl)) pgs_nil))))) (rg_tup (rgs_cons rg_name (rgs_cons rg_name (rgs_cons rg_name rgs_nil)))))
      (ss_cons (s_own (ps_set (i := 4) sc_format_fence.nd rfl (Or.inl rfl) (f_cat (e_v (e_f (f_lst (a_cons (e_fstr (j_cons (e_fmt (e_var (pv 1))) (j_cons e_str j_nil))) a_nil)))) (e_v (e_f (f_lc (pe_lc (own := [("x", 5), ("y", 6)]) (g := (gTup _ 2 (gCons (gName 5) (gCons (gName 6) gNil)))) rfl sc_format_fence.nd (i_seq (pi_list (e_var (pv 2))) (pi_tup (e_var (pv 2)))) (blkOk_by (own := [("x", 5), ("y", 6)]) (N := n_format_fence) (sc := defScope s_format_fence) (by decide +kernel)) (fun _ _ _ _ _ => (pg_tup rfl (pgs_cons (pg_name (i := 5) sc_format_fence.nd rfl (Or.inl rfl)) (pgs_cons (pg_name (i := 6) sc_format_fence.nd rfl (Or.inl rfl)) pgs_nil)))) (fun _ _ _ _ _ => t_yes) (fun _ _ _ _ _ => (e_fstr (j_cons (e_fmt (e_var (pv 5))) (j_cons e_str (j_cons (e_fmt (e_var (pv 6))) j_nil)))))) (rg_tup (rgs_cons rg_name (rgs_cons rg_name rgs_nil))) (hw_tup (hws_cons (by decide) (hws_cons (by decide) hws_nil)))))))))
      (ss_cons (s_if (ps_if (t_cmp (op_or op_ne (op_neD hr.units)) rd_neA (v_var (pv 3)) (e_v (e_f (f_lst a_nil))) (nomark _)) (ss_one (s_ext (ps_aug (i := 4) sc_format_fence.nd rfl (Or.inl rfl) (f_cat (e_v (e_f (f_lst (a_cons e_str a_nil)))) (e_v (e_f (f_lc (pe_lc (own := [("side", 7)]) (g := (gName 7)) rfl sc_format_fence.nd (i_seq (pi_list (e_var (pv 3))) (pi_tup (e_var (pv 3)))) (blkOk_by (own := [("side", 7)]) (N := n_format_fence) (sc := defScope s_format_fence) (by decide +kernel)) (fun _ _ _ _ _ => (pg_name (i := 7) sc_format_fence.nd rfl (Or.inl rfl))) (fun _ _ _ _ _ => t_yes) (fun _ _ _ _ _ => (e_callTy call_strA rd_str rfl B.b_str (by decide +kernel) (w_cons (v_var (pv 7)) w_nil)))) rg_name (hw_name (by decide)))))) ip_ext))) ss_nil))
      (ss_one (s_ret (ps_ret (e_join e_str (v_var (pv 4)))))))))))
abbrev s_words_of : Stmt := (top 39)
abbrev n_words_of : List Str := ["text"]
abbrev p_words_of : List Str := ["text"]
theorem sc_words_of : FnScope n_words_of p_words_of (defScope s_words_of) := ⟨rfl, rfl, rfl, by decide +kernel, rfl, by decide +kernel, by decide +kernel⟩
def m_words_of : MS := (mSeq (mIfS (mNot (mTest (mCB gIsi (mCons (mVw 0) (mCons (mC (.ty "str")) mNil))))) mNever mNext) (mRet (mUn (gSplit " ") (mVar 0))))
def F_words_of : FP := fP 1 1 m_words_of
theorem ok_words_of {P : Program} {w : World} {K : PySem.W.Frag} {mg : Str → Option Value} {base : Heap} {f : Addr} {fd : FuncData} (B : Bn K mg) (F : FnP K "words_of" "words_of" s_words_of f fd) : FnG P w K mg base 3 f fd p_words_of (spP ⟨K, mg⟩ F_words_of) :=
  fn_pureG F sc_words_of (by decide) fun cdv A hG outer s H E hr tk po => (
    (ss_cons (s_if (ps_if (t_not (t_val (e_callB call_isi rd_isi rfl B.b_isinstance boot_isinstance (w_cons (v_var (pv 0)) (w_cons (e_v (e_ty rfl B.b_str boot_str)) w_nil))))) (ss_one s_never) ss_nil))
      (ss_one (s_ret (ps_ret (e_split (e_var (pv 0))))))))
abbrev s_plain_number : Stmt := (top 31)
abbrev n_plain_number : List Str := ["word", "sign"]
abbrev p_plain_number : List Str := ["word"]
theorem sc_plain_number : FnScope n_plain_number p_plain_number (defScope s_plain_number) := ⟨rfl, rfl, rfl, by decide +kernel, rfl, by decide +kernel, by decide +kernel⟩
def m_plain_number : MS := (mSeq (mIfS (mOr (mTest (mBin gEqA (mVw 0) (mC (.str "")))) (mOr (mTest (mBin gGt (mCB gLenS (mCons (mVw 0) mNil)) (mC (.int 200)))) (mNot (mTest (mCB gAll (mCons (mOfL (mLc (iStrM (mVar 0)) (gNm 1) mYes (mBin gInS (mVw 1) (mC (.str "0123456789"))) [1])) mNil)))))) (mRet (mC .non)) mNext) (mRet (mIf (mAnd (mTest (mBin gEqA (mBin gIxS (mVw 0) (mC (.int 0))) (mC (.str "0")))) (mTest (mBin gNeA (mVw 0) (mC (.str "0"))))) (mC .non) (mCB gIntS (mCons (mVw 0) mNil)))))
def F_plain_number : FP := fP 2 1 m_plain_number
theorem ok_plain_number {P : Program} {w : World} {K : PySem.W.Frag} {mg : Str → Option Value} {base : Heap} {f : Addr} {fd : FuncData} (B : Bn K mg) (F : FnP K "plain_number" "plain_number" s_plain_number f fd) : FnG P w K mg base 1 f fd p_plain_number (spP ⟨K, mg⟩ F_plain_number) :=
  fn_pureG F sc_plain_number (by decide) fun cdv A hG outer s H E hr tk po => (
    (ss_cons (s_if (ps_if (L2.PW.pt (w_or (t_cmp (op_or op_eq (op_eqD hr.units)) rd_eqA (v_var (pv 0)) (e_v e_str) (nomark _)) (w_or (t_cmp op_gt rd_gt (e_v (e_callB call_len_str rd_lenS rfl B.b_len boot_len (w_cons (v_var (pv 0)) w_nil))) (e_v (e_globx rfl B.k_MOST_DIGITS)) (nomark _)) (w_or1 (t_not (t_val (e_callB (cr_all rfl) rd_all rfl B.b_all boot_all (w_cons (e_v (e_f (f_lc (pe_lc (own := [("sign", 1)]) (g := (gName 1)) rfl sc_plain_number.nd (i_str (pi_str (e_var (pv 0)))) (blkOk_by (own := [("sign", 1)]) (N := n_plain_number) (sc := defScope s_plain_number) (by decide +kernel)) (fun _ _ _ _ _ => (pg_name (i := 1) sc_plain_number.nd rfl (Or.inl rfl))) (fun _ _ _ _ _ => t_yes) (fun _ _ _ _ _ => (e_cmp op_in_sign rd_inS (v_var (pv 1)) (e_v e_str) rfl))) rg_name (hw_name (by decide))))) w_nil)))))))) (ss_one (s_ret (ps_ret e_non))) ss_nil))
      (ss_one (s_ret (ps_ret (e_if (L2.PW.pt (w_and (t_cmp (op_or op_eq (op_eqD hr.units)) rd_eqA (e_v (e_ix ix_str rd_ixS (v_var (pv 0)) (e_v e_int))) (e_v e_str) (nomark _)) (w_and1 (t_cmp (op_or op_ne (op_neD hr.units)) rd_neA (v_var (pv 0)) (e_v e_str) (nomark _))))) e_non (e_callTy call_int_str rd_intS rfl B.b_int boot_int (w_cons (v_var (pv 0)) w_nil))))))))
abbrev s_signed_number : Stmt := (top 32)
abbrev n_signed_number : List Str := ["word", "number"]
abbrev p_signed_number : List Str := ["word"]
theorem sc_signed_number : FnScope n_signed_number p_signed_number (defScope s_signed_number) := ⟨rfl, rfl, rfl, by decide +kernel, rfl, by decide +kernel, by decide +kernel⟩
def m_signed_number : MS := (mSeq (mSet 1 (mCall F_plain_number (mCons (mIf (mTest (mBin gEqA (mCutS (mVar 0) mNo (mSome (mC (.int 1)))) (mC (.str "-")))) (mCutS (mVar 0) (mSome (mC (.int 1))) mNo) (mVar 0)) mNil))) (mSeq (mIfS (mOr (mTest (mBin gIsN (mVw 1) (mC .non))) (mTest (mBin gEqA (mVw 0) (mC (.str "-0"))))) (mRet (mC .non)) mNext) (mRet (mIf (mTest (mBin gEqA (mCutS (mVar 0) mNo (mSome (mC (.int 1)))) (mC (.str "-")))) (mUn gNeg (mVw 1)) (mVar 1)))))
def F_signed_number : FP := fP 2 1 m_signed_number
theorem ok_signed_number {P : Program} {w : World} {K : PySem.W.Frag} {mg : Str → Option Value} {base : Heap} {f : Addr} {fd : FuncData} (B : Bn K mg) (F : FnP K "signed_number" "signed_number" s_signed_number f fd) (c_plain_number : Card P w K mg base "plain_number" p_plain_number 1 (spP ⟨K, mg⟩ F_plain_number)) : FnG P w K mg base 2 f fd p_signed_number (spP ⟨K, mg⟩ F_signed_number) :=
  fn_pureG F sc_signed_number (by decide) fun cdv A hG outer s H E hr tk po => (
    (ss_cons (s_set (ps_set (i := 1) sc_signed_number.nd rfl (Or.inl rfl) (e_card c_plain_number hr (by decide) hG (pz_of tk) rfl (a_cons (e_if (t_cmp (op_or op_eq (op_eqD hr.units)) rd_eqA (e_v (e_cutS (e_var (pv 0)) o_no (o_some e_int))) (e_v e_str) (nomark _)) (e_cutS (e_var (pv 0)) (o_some e_int) o_no) (e_var (pv 0))) a_nil))))
      (ss_cons (s_if (ps_if (L2.PW.pt (w_or (t_cmp op_isN rd_isN (v_var (pv 1)) (e_v e_non) (nomark _)) (w_or1 (t_cmp (op_or op_eq (op_eqD hr.units)) rd_eqA (v_var (pv 0)) (e_v e_str) (nomark _))))) (ss_one (s_ret (ps_ret e_non))) ss_nil))
      (ss_one (s_ret (ps_ret (e_if (t_cmp (op_or op_eq (op_eqD hr.units)) rd_eqA (e_v (e_cutS (e_var (pv 0)) o_no (o_some e_int))) (e_v e_str) (nomark _)) (e_un un_neg rd_neg (v_var (pv 1))) (e_var (pv 1)))))))))
abbrev s_corner_in : Stmt := (top 35)
abbrev n_corner_in : List Str := ["word", "numbers", "part"]
abbrev p_corner_in : List Str := ["word"]
theorem sc_corner_in : FnScope n_corner_in p_corner_in (defScope s_corner_in) := ⟨rfl, rfl, rfl, by decide +kernel, rfl, by decide +kernel, by decide +kernel⟩
def m_corner_in : MS := (mSeq (mSet 1 (mOfL (mLc (iSeq (mUn (gSplit ",") (mVar 0))) (gNm 2) mYes (mCall F_signed_number (mCons (mVar 2) mNil)) [2]))) (mRet (mIf (mAnd (mTest (mBin gEqA (mCB gLen (mCons (mVw 1) mNil)) (mC (.int 2)))) (mTest (mBin gNotIn (mC .non) (mVw 1)))) (mTuple (mVw 1)) (mC .non))))
def F_corner_in : FP := fP 3 1 m_corner_in
theorem ok_corner_in {P : Program} {w : World} {K : PySem.W.Frag} {mg : Str → Option Value} {base : Heap} {f : Addr} {fd : FuncData} (B : Bn K mg) (F : FnP K "corner_in" "corner_in" s_corner_in f fd) (c_signed_number : Card P w K mg base "signed_number" p_signed_number 2 (spP ⟨K, mg⟩ F_signed_number)) : FnG P w K mg base 3 f fd p_corner_in (spP ⟨K, mg⟩ F_corner_in) :=
  fn_pureG F sc_corner_in (by decide) fun cdv A hG outer s H E hr tk po => (
    (ss_cons (s_set_lc (ps_setLc (i := 1) (own := [("part", 2)]) (g := (gName 2)) rfl sc_corner_in.nd rfl rfl rfl (i_seq (pi_list (e_split (e_var (pv 0)))) (pi_tup (e_split (e_var (pv 0))))) (blkOk_by (own := [("part", 2)]) (N := n_corner_in) (sc := defScope s_corner_in) (by decide +kernel)) (fun _ _ _ _ _ => (pg_name (i := 2) sc_corner_in.nd rfl (Or.inl rfl))) (fun _ _ _ _ _ => t_yes) (fun _ _ _ _ _ => (e_card c_signed_number hr (by decide) hG pz0 rfl (a_cons (e_var (pv 2)) a_nil)))) rg_name (hw_name (by decide)))
      (ss_one (s_ret (ps_ret (e_if (L2.PW.pt (w_and (t_cmp (op_or op_eq (op_eqD hr.units)) rd_eqA (e_v (e_callB call_len_seq rd_len rfl B.b_len boot_len (w_cons (v_var (pv 1)) w_nil))) (e_v e_int) (nomark _)) (w_and1 (t_cmp (op_notInD (hu65 hr)) rd_notIn (e_v e_non) (v_var (pv 1)) rfl)))) (e_tuple (pe_callTy call_tuple_of rfl B.b_tuple boot_tuple (pa_cons (v_var (pv 1)) pa_nil))) e_non))))))
abbrev s_parse_fence : Stmt := (top 40)
abbrev n_parse_fence : List Str := ["text", "words", "bottom", "corners", "sides", "is_behind", "index", "word", "some"]
abbrev p_parse_fence : List Str := ["text"]
theorem sc_parse_fence : FnScope n_parse_fence p_parse_fence (defScope s_parse_fence) := ⟨rfl, rfl, rfl, by decide +kernel, rfl, by decide +kernel, by decide +kernel⟩
def m_parse_fence : MS := (mSeq (mSet 1 (mCall F_words_of (mCons (mVar 0) mNil))) (mSeq (mSet 2 (mIf (mTest (mBin gEqA (mCutS (mBin gIx (mVw 1) (mC (.int 0))) (mSome (mUn gNeg (mC (.int 1)))) mNo) (mC (.str ":")))) (mCall F_plain_number (mCons (mCutS (mBin gIx (mVw 1) (mC (.int 0))) mNo (mSome (mUn gNeg (mC (.int 1))))) mNil)) (mC .non))) (mSeq (mIfS (mTest (mBin gIsN (mVw 2) (mC .non))) mNever mNext) (mSeq (mParX3 3 4 5 (xF (mNew mNil) (xF (mNew mNil) (xE (mC (.bl false)) xNil)))) (mSeq (mFor (iR2A (mCons (mC (.int 1)) (mCons (mCB gLen (mCons (mVw 1) mNil)) mNil))) (gNm 6) (mPost [6, 7, 8] (mSeq (mSet 7 (mBin gIx (mVw 1) (mVw 6))) (mSeq (mIfS (mAnd (mTest (mBin gEqA (mVw 7) (mC (.str "/")))) (mAnd (mTest (mBin gNeA (mVw 3) (mOfL (mNew mNil)))) (mNot (mTest (mVar 5))))) (mSeq (mSet 5 (mC (.bl true))) mCont) mNext) (mSeq (mSet 8 (mIf (mTest (mVar 5)) (mCall F_plain_number (mCons (mVar 7) mNil)) (mCall F_corner_in (mCons (mVar 7) mNil)))) (mSeq (mIfS (mTest (mBin gIsN (mVw 8) (mC .non))) mNever mNext) (mIfS (mTest (mVar 5)) (mApp 4 (mVar 8)) (mApp 3 (mVar 8))))))))) (mSeq (mLeak 4 (mLeak 3 (mIfS (mOr (mAnd (mTest (mVar 5)) (mTest (mBin gEqA (mVw 4) (mOfL (mNew mNil))))) (mTest (mBin gNeA (mCall F_fence_fault (mCons (mTup (mCons (mVar 2) (mCons (mVar 3) (mCons (mVar 4) mNil)))) mNil)) (mTup mNil)))) mNever mNext))) (mRet (mTup (mCons (mVar 2) (mCons (mVar 3) (mCons (mVar 4) mNil)))))))))))
def F_parse_fence : FP := fP 9 1 m_parse_fence
theorem ok_parse_fence {P : Program} {w : World} {K : PySem.W.Frag} {mg : Str → Option Value} {base : Heap} {f : Addr} {fd : FuncData} (B : Bn K mg) (F : FnP K "parse_fence" "parse_fence" s_parse_fence f fd) (c_fence_fault : Card P w K mg base "fence_fault" p_fence_fault 5 (spP ⟨K, mg⟩ F_fence_fault)) (c_words_of : Card P w K mg base "words_of" p_words_of 3 (spP ⟨K, mg⟩ F_words_of)) (c_plain_number : Card P w K mg base "plain_number" p_plain_number 1 (spP ⟨K, mg⟩ F_plain_number)) (c_corner_in : Card P w K mg base "corner_in" p_corner_in 3 (spP ⟨K, mg⟩ F_corner_in)) : FnG P w K mg base 6 f fd p_parse_fence (spP ⟨K, mg⟩ F_parse_fence) :=
  fn_pureG F sc_parse_fence (by decide) fun cdv A hG outer s H E hr tk po => (
    (ss_cons (s_set (ps_set (i := 1) sc_parse_fence.nd rfl (Or.inl rfl) (e_card c_words_of hr (by decide) hG (pz_of tk) rfl (a_cons (e_var (pv 0)) a_nil))))
      (ss_cons (s_set (ps_set (i := 2) sc_parse_fence.nd rfl (Or.inl rfl) (e_if (t_cmp (op_or op_eq (op_eqD hr.units)) rd_eqA (e_v (e_cutS (e_ix ix_seq rd_ix (v_var (pv 1)) (e_v e_int)) (o_some (e_un un_neg rd_neg (e_v e_int))) o_no)) (e_v e_str) (nomark _)) (e_card c_plain_number hr (by decide) hG (pz_of tk) rfl (a_cons (e_cutS (e_ix ix_seq rd_ix (v_var (pv 1)) (e_v e_int)) o_no (o_some (e_un un_neg rd_neg (e_v e_int)))) a_nil)) e_non)))
      (ss_cons (s_if (ps_if (t_cmp op_isN rd_isN (v_var (pv 2)) (e_v e_non) (nomark _)) (ss_one s_never) ss_nil))
      (ss_cons (s_parX3 (ps_par3 rfl sc_parse_fence.nd rfl rfl rfl (by decide) (by decide) (by decide) rfl rfl rfl (x_f (f_lst a_nil) (x_f (f_lst a_nil) (x_e e_bl x_nil))) rfl))
      (ss_cons (s_for (ps_for po rfl (i_r2A (pi_range2A rfl B.b_range (a_cons e_int (a_cons (e_callB call_len_seq rd_len rfl B.b_len boot_len (w_cons (v_var (pv 1)) w_nil)) a_nil)))) (pg_name (i := 6) sc_parse_fence.nd rfl (Or.inl rfl)) (ss_post (ss_cons (s_set (ps_set (i := 7) sc_parse_fence.nd rfl (Or.inl rfl) (e_ix ix_seq rd_ix (v_var (pv 1)) (v_var (pv 6)))))
      (ss_cons (s_if (ps_if (L2.PW.pt (w_and (t_cmp (op_or op_eq (op_eqD hr.units)) rd_eqA (v_var (pv 7)) (e_v e_str) (nomark _)) (w_and (t_cmp (op_or op_ne (op_neD hr.units)) rd_neA (v_var (pv 3)) (e_v (e_f (f_lst a_nil))) (nomark _)) (w_and1 (t_not (t_val (e_var (pv 5)))))))) (ss_cons (s_set (ps_set (i := 5) sc_parse_fence.nd rfl (Or.inl rfl) e_bl))
      (ss_one (s_cont ps_continue))) ss_nil))
      (ss_cons (s_set (ps_set (i := 8) sc_parse_fence.nd rfl (Or.inl rfl) (e_if (t_val (e_var (pv 5))) (e_card c_plain_number hr (by decide) hG (pz_of tk) rfl (a_cons (e_var (pv 7)) a_nil)) (e_card c_corner_in hr (by decide) hG (pz_of tk) rfl (a_cons (e_var (pv 7)) a_nil)))))
      (ss_cons (s_if (ps_if (t_cmp op_isN rd_isN (v_var (pv 8)) (e_v e_non) (nomark _)) (ss_one s_never) ss_nil))
      (ss_one (s_if (ps_if (t_val (e_var (pv 5))) (ss_one (s_app (ps_expr (pe_bm PySem.F.plainAttrs_list PySem.F.slot_list_append PySem.F.type_list_append mt_append (pv 4) (pa_cons (e_var (pv 8)) pa_nil))))) (ss_one (s_app (ps_expr (pe_bm PySem.F.plainAttrs_list PySem.F.slot_list_append PySem.F.type_list_append mt_append (pv 3) (pa_cons (e_var (pv 8)) pa_nil)))))))))))))) rg_name)
      (ss_cons (s_leak (i := 4) (s_leak (i := 3) (s_if (ps_if (L2.PW.pt (w_or (L2.PW.pt (w_and (t_val (e_var (pv 5))) (w_and1 (t_cmp (op_or op_eq (op_eqD hr.units)) rd_eqA (v_var (pv 4)) (e_v (e_f (f_lst a_nil))) (nomark _))))) (w_or1 (t_cmp (op_or op_ne (op_neD hr.units)) rd_neA (e_v (e_card c_fence_fault hr (by decide) hG (pz_of tk) rfl (a_cons (e_tup (a_cons (e_var (pv 2)) (a_cons (e_var (pv 3)) (a_cons (e_var (pv 4)) a_nil)))) a_nil))) (e_v (e_tup a_nil)) (nomark _))))) (ss_one s_never) ss_nil))))
      (ss_one (s_ret (ps_ret (e_tup (a_cons (e_var (pv 2)) (a_cons (e_var (pv 3)) (a_cons (e_var (pv 4)) a_nil))))))))))))))
abbrev s_common_divisor : Stmt := (top 14)
abbrev n_common_divisor : List Str := ["one", "other"]
abbrev p_common_divisor : List Str := ["one", "other"]
theorem sc_common_divisor : FnScope n_common_divisor p_common_divisor (defScope s_common_divisor) := ⟨rfl, rfl, rfl, by decide +kernel, rfl, by decide +kernel, by decide +kernel⟩
def m_common_divisor : MS := (mSeq (mPar 0 1 (mCons (mCB gAbs (mCons (mVw 0) mNil)) (mCons (mCB gAbs (mCons (mVw 1) mNil)) mNil))) (mSeq (mWhile (mTest (mBin gGt (mVw 1) (mC (.int 0)))) (mPar 0 1 (mCons (mVar 1) (mCons (mBin gMod (mVw 0) (mVw 1)) mNil)))) (mRet (mVar 0))))
def F_common_divisor : FP := fP 2 2 m_common_divisor
theorem ok_common_divisor {P : Program} {w : World} {K : PySem.W.Frag} {mg : Str → Option Value} {base : Heap} {f : Addr} {fd : FuncData} (B : Bn K mg) (F : FnP K "common_divisor" "common_divisor" s_common_divisor f fd) : FnG P w K mg base 1 f fd p_common_divisor (spP ⟨K, mg⟩ F_common_divisor) :=
  fn_pureG F sc_common_divisor (by decide) fun cdv A hG outer s H E hr tk po => (
    (ss_cons (s_par (ps_par rfl sc_common_divisor.nd rfl rfl (by decide) rfl rfl (a_cons (e_callB call_abs rd_abs rfl B.b_abs boot_abs (w_cons (v_var (pv 0)) w_nil)) (a_cons (e_callB call_abs rd_abs rfl B.b_abs boot_abs (w_cons (v_var (pv 1)) w_nil)) a_nil)) rfl))
      (ss_cons (s_while (ps_while po (t_cmp op_gt rd_gt (v_var (pv 1)) (e_v e_int) (nomark _)) (ss_one (s_par (ps_par rfl sc_common_divisor.nd rfl rfl (by decide) rfl rfl (a_cons (e_var (pv 1)) (a_cons (e_bin op_mod rd_mod (v_var (pv 0)) (v_var (pv 1))) a_nil)) rfl)))))
      (ss_one (s_ret (ps_ret (e_var (pv 0))))))))
abbrev s_is_fraction : Stmt := (top 15)
abbrev n_is_fraction : List Str := ["value"]
abbrev p_is_fraction : List Str := ["value"]
theorem sc_is_fraction : FnScope n_is_fraction p_is_fraction (defScope s_is_fraction) := ⟨rfl, rfl, rfl, by decide +kernel, rfl, by decide +kernel, by decide +kernel⟩
def m_is_fraction : MS := (mRet (mAndV (mCall F_are_integers (mCons (mVar 0) (mCons (mC (.int 2)) mNil))) (mAndV (mBin gGe (mBin gIx (mVw 0) (mC (.int 1))) (mC (.int 1))) (mBin gEqA (mCall F_common_divisor (mCons (mBin gIx (mVw 0) (mC (.int 0))) (mCons (mBin gIx (mVw 0) (mC (.int 1))) mNil))) (mC (.int 1))))))
def F_is_fraction : FP := fP 1 1 m_is_fraction
theorem ok_is_fraction {P : Program} {w : World} {K : PySem.W.Frag} {mg : Str → Option Value} {base : Heap} {f : Addr} {fd : FuncData} (B : Bn K mg) (F : FnP K "is_fraction" "is_fraction" s_is_fraction f fd) (c_are_integers : Card P w K mg base "are_integers" p_are_integers 2 (spP ⟨K, mg⟩ F_are_integers)) (c_common_divisor : Card P w K mg base "common_divisor" p_common_divisor 1 (spP ⟨K, mg⟩ F_common_divisor)) : FnG P w K mg base 3 f fd p_is_fraction (spP ⟨K, mg⟩ F_is_fraction) :=
  fn_pureG F sc_is_fraction (by decide) fun cdv A hG outer s H E hr tk po => (
    (ss_one (s_ret (ps_ret (e_and (e_card c_are_integers hr (by decide) hG (pz_of tk) rfl (a_cons (e_var (pv 0)) (a_cons e_int a_nil))) (e_and (e_cmp op_ge rd_ge (e_v (e_ix ix_seq rd_ix (v_var (pv 0)) (e_v e_int))) (e_v e_int) (nomark _)) (e_one (e_cmp (op_or op_eq (op_eqD hr.units)) rd_eqA (e_v (e_card c_common_divisor hr (by decide) hG (pz_of tk) rfl (a_cons (e_ix ix_seq rd_ix (v_var (pv 0)) (e_v e_int)) (a_cons (e_ix ix_seq rd_ix (v_var (pv 0)) (e_v e_int)) a_nil)))) (e_v e_int) (nomark _)))))))))
abbrev s_is_row : Stmt := (top 23)
abbrev n_is_row : List Str := ["value", "item"]
abbrev p_is_row : List Str := ["value"]
theorem sc_is_row : FnScope n_is_row p_is_row (defScope s_is_row) := ⟨rfl, rfl, rfl, by decide +kernel, rfl, by decide +kernel, by decide +kernel⟩
def m_is_row : MS := (mRet (mAndV (mCB gIsi (mCons (mVw 0) (mCons (mC (.ty "tuple")) mNil))) (mAndV (mBin gEqA (mCB gLen (mCons (mVw 0) mNil)) (mC (.int 3))) (mCB gAll (mCons (mOfL (mLc (iSeq (mVar 0)) (gNm 1) mYes (mCall F_is_fraction (mCons (mVar 1) mNil)) [1])) mNil)))))
def F_is_row : FP := fP 2 1 m_is_row
theorem ok_is_row {P : Program} {w : World} {K : PySem.W.Frag} {mg : Str → Option Value} {base : Heap} {f : Addr} {fd : FuncData} (B : Bn K mg) (F : FnP K "is_row" "is_row" s_is_row f fd) (c_is_fraction : Card P w K mg base "is_fraction" p_is_fraction 3 (spP ⟨K, mg⟩ F_is_fraction)) : FnG P w K mg base 4 f fd p_is_row (spP ⟨K, mg⟩ F_is_row) :=
  fn_pureG F sc_is_row (by decide) fun cdv A hG outer s H E hr tk po => (
    (ss_one (s_ret (ps_ret (e_and (e_callB call_isi rd_isi rfl B.b_isinstance boot_isinstance (w_cons (v_var (pv 0)) (w_cons (e_v (e_ty rfl B.b_tuple boot_tuple)) w_nil))) (e_and (e_cmp (op_or op_eq (op_eqD hr.units)) rd_eqA (e_v (e_callB call_len_seq rd_len rfl B.b_len boot_len (w_cons (v_var (pv 0)) w_nil))) (e_v e_int) (nomark _)) (e_one (e_callB (cr_all rfl) rd_all rfl B.b_all boot_all (w_cons (e_v (e_f (f_lc (pe_lc (own := [("item", 1)]) (g := (gName 1)) rfl sc_is_row.nd (i_seq (pi_list (e_var (pv 0))) (pi_tup (e_var (pv 0)))) (blkOk_by (own := [("item", 1)]) (N := n_is_row) (sc := defScope s_is_row) (by decide +kernel)) (fun _ _ _ _ _ => (pg_name (i := 1) sc_is_row.nd rfl (Or.inl rfl))) (fun _ _ _ _ _ => t_yes) (fun _ _ _ _ _ => (e_card c_is_fraction hr (by decide) hG pz0 rfl (a_cons (e_var (pv 1)) a_nil)))) rg_name (hw_name (by decide))))) w_nil)))))))))
abbrev s_rule_fault : Stmt := (top 24)
abbrev n_rule_fault : List Str := ["value", "index", "item"]
abbrev p_rule_fault : List Str := ["value"]
theorem sc_rule_fault : FnScope n_rule_fault p_rule_fault (defScope s_rule_fault) := ⟨rfl, rfl, rfl, by decide +kernel, rfl, by decide +kernel, by decide +kernel⟩
def m_rule_fault : MS := (mSeq (mIfS (mOr (mNot (mTest (mCB gIsi (mCons (mVw 0) (mCons (mC (.ty "list")) mNil))))) (mNot (mTest (mChain gLeA gLeA (mC (.int 1)) (mCB gLen (mCons (mVw 0) mNil)) (mC (.int 30)))))) (mRet (mTup (mCons (mC .non) mNil))) mNext) (mSeq (mFor (iEn (mCons (mVar 0) mNil)) (gTp 2 (gsCons (gNm 1) (gsCons (gNm 2) gsNil))) (mPost [1, 2] (mIfS (mNot (mTest (mCall F_is_row (mCons (mVar 2) mNil)))) (mRet (mTup (mCons (mVar 1) mNil))) mNext))) (mRet (mTup mNil))))
def F_rule_fault : FP := fP 3 1 m_rule_fault
theorem ok_rule_fault {P : Program} {w : World} {K : PySem.W.Frag} {mg : Str → Option Value} {base : Heap} {f : Addr} {fd : FuncData} (B : Bn K mg) (F : FnP K "rule_fault" "rule_fault" s_rule_fault f fd) (c_is_row : Card P w K mg base "is_row" p_is_row 4 (spP ⟨K, mg⟩ F_is_row)) : FnG P w K mg base 5 f fd p_rule_fault (spP ⟨K, mg⟩ F_rule_fault) :=
  fn_pureG F sc_rule_fault (by decide) fun cdv A hG outer s H E hr tk po => (
    (ss_cons (s_if (ps_if (L2.PW.pt (w_or (t_not (t_val (e_callB call_isi rd_isi rfl B.b_isinstance boot_isinstance (w_cons (v_var (pv 0)) (w_cons (e_v (e_ty rfl B.b_list boot_list)) w_nil))))) (w_or1 (t_not (t_chain (op_or op_le (op_leT hr.units0)) (op_or op_le (op_leT hr.units0)) rd_leA rd_leA (e_v e_int) (e_v (e_callB call_len_seq rd_len rfl B.b_len boot_len (w_cons (v_var (pv 0)) w_nil))) (e_v (e_globx rfl B.k_MOST_ROWS))))))) (ss_one (s_ret (ps_ret (e_tup (a_cons e_non a_nil))))) ss_nil))
      (ss_cons (s_for (ps_for po rfl (i_enum (pi_enum rfl B.b_enumerate (a_cons (e_var (pv 0)) a_nil))) (pg_tup rfl (pgs_cons (pg_name (i := 1) sc_rule_fault.nd rfl (Or.inl rfl)) (pgs_cons (pg_name (i := 2) sc_rule_fault.nd rfl (Or.inl rfl)) pgs_nil))) (ss_post (ss_one (s_if (ps_if (t_not (t_val (e_card c_is_row hr (by decide) hG (pz_of tk) rfl (a_cons (e_var (pv 2)) a_nil)))) (ss_one (s_ret (ps_ret (e_tup (a_cons (e_var (pv 1)) a_nil))))) ss_nil))))) (rg_tup (rgs_cons rg_name (rgs_cons rg_name rgs_nil))))
      (ss_one (s_ret (ps_ret (e_tup a_nil)))))))
abbrev s_fraction_text : Stmt := (top 33)
abbrev n_fraction_text : List Str := ["fraction", "top", "bottom"]
abbrev p_fraction_text : List Str := ["fraction"]
theorem sc_fraction_text : FnScope n_fraction_text p_fraction_text (defScope s_fraction_text) := ⟨rfl, rfl, rfl, by decide +kernel, rfl, by decide +kernel, by decide +kernel⟩
def m_fraction_text : MS := (mSeq (mAsg (mVar 0) (gTp 2 (gsCons (gNm 1) (gsCons (gNm 2) gsNil)))) (mRet (mIf (mTest (mBin gEqA (mVw 2) (mC (.int 1)))) (mCB gStr (mCons (mVw 1) mNil)) ((mJ1 (mUn gFmt (mVar 1)) (mJ1 (mC (.str "/")) (mJ1 (mUn gFmt (mVar 2)) mJ0))) Str.empty))))
def F_fraction_text : FP := fP 3 1 m_fraction_text
theorem ok_fraction_text {P : Program} {w : World} {K : PySem.W.Frag} {mg : Str → Option Value} {base : Heap} {f : Addr} {fd : FuncData} (B : Bn K mg) (F : FnP K "fraction_text" "fraction_text" s_fraction_text f fd) : FnG P w K mg base 1 f fd p_fraction_text (spP ⟨K, mg⟩ F_fraction_text) :=
  fn_pureG F sc_fraction_text (by decide) fun cdv A hG outer s H E hr tk po => (
    (ss_cons (s_asg (ps_asg (e_var (pv 0)) (pg_tup rfl (pgs_cons (pg_name (i := 1) sc_fraction_text.nd rfl (Or.inl rfl)) (pgs_cons (pg_name (i := 2) sc_fraction_text.nd rfl (Or.inl rfl)) pgs_nil)))) (rg_tup (rgs_cons rg_name (rgs_cons rg_name rgs_nil))))
      (ss_one (s_ret (ps_ret (e_if (t_cmp (op_or op_eq (op_eqD hr.units)) rd_eqA (v_var (pv 2)) (e_v e_int) (nomark _)) (e_callTy call_strA rd_str rfl B.b_str (by decide +kernel) (w_cons (v_var (pv 1)) w_nil)) (e_fstr (j_cons (e_fmt (e_var (pv 1))) (j_cons e_str (j_cons (e_fmt (e_var (pv 2))) j_nil))))))))))
abbrev s_format_rule : Stmt := (top 37)
abbrev n_format_rule : List Str := ["rule", "fault", "row", "part"]
abbrev p_format_rule : List Str := ["rule"]
theorem sc_format_rule : FnScope n_format_rule p_format_rule (defScope s_format_rule) := ⟨rfl, rfl, rfl, by decide +kernel, rfl, by decide +kernel, by decide +kernel⟩
def m_format_rule : MS := (mSeq (mSet 1 (mCall F_rule_fault (mCons (mVar 0) mNil))) (mSeq (mIfS (mTest (mBin gNeA (mVw 1) (mTup mNil))) mNever mNext) (mRet (mUn (gJoin "; ") (mOfL (mLc (iSeq (mVar 0)) (gNm 2) mYes (mUn (gJoin " ") (mOfL (mLc (iSeq (mVar 2)) (gNm 3) mYes (mCall F_fraction_text (mCons (mVar 3) mNil)) [3]))) [2]))))))
def F_format_rule : FP := fP 4 1 m_format_rule
theorem ok_format_rule {P : Program} {w : World} {K : PySem.W.Frag} {mg : Str → Option Value} {base : Heap} {f : Addr} {fd : FuncData} (B : Bn K mg) (F : FnP K "format_rule" "format_rule" s_format_rule f fd) (c_rule_fault : Card P w K mg base "rule_fault" p_rule_fault 5 (spP ⟨K, mg⟩ F_rule_fault)) (c_fraction_text : Card P w K mg base "fraction_text" p_fraction_text 1 (spP ⟨K, mg⟩ F_fraction_text)) : FnG P w K mg base 6 f fd p_format_rule (spP ⟨K, mg⟩ F_format_rule) :=
  fn_pureG F sc_format_rule (by decide) fun cdv A hG outer s H E hr tk po => (
    (ss_cons (s_set (ps_set (i := 1) sc_format_rule.nd rfl (Or.inl rfl) (e_card c_rule_fault hr (by decide) hG (pz_of tk) rfl (a_cons (e_var (pv 0)) a_nil))))
      (ss_cons (s_if (ps_if (t_cmp (op_or op_ne (op_neD hr.units)) rd_neA (v_var (pv 1)) (e_v (e_tup a_nil)) (nomark _)) (ss_one s_never) ss_nil))
      (ss_one (s_ret (ps_ret (e_join e_str (e_v (e_f (f_lc (pe_lc (own := [("row", 2)]) (g := (gName 2)) rfl sc_format_rule.nd (i_seq (pi_list (e_var (pv 0))) (pi_tup (e_var (pv 0)))) (blkOk_by (own := [("row", 2)]) (N := n_format_rule) (sc := defScope s_format_rule) (by decide +kernel)) (fun _ _ _ _ _ => (pg_name (i := 2) sc_format_rule.nd rfl (Or.inl rfl))) (fun _ _ _ _ _ => t_yes) (fun _ _ _ _ _ => (e_join e_str (e_v (e_f (f_lc (pe_lc (own := [("part", 3)]) (g := (gName 3)) rfl sc_format_rule.nd (i_seq (pi_list (e_var (pv 2))) (pi_tup (e_var (pv 2)))) (blkOk_by (own := [("part", 3)]) (N := n_format_rule) (sc := ({ kind := .function, names := [(".0", .local), ("row", .local)], isGenerator := false, isCoroutine := false } : Scope)) (by decide +kernel)) (fun _ _ _ _ _ => (pg_name (i := 3) sc_format_rule.nd rfl (Or.inl rfl))) (fun _ _ _ _ _ => t_yes) (fun _ _ _ _ _ => (e_card c_fraction_text hr (by decide) hG pz0 rfl (a_cons (e_var (pv 3)) a_nil)))) rg_name (hw_name (by decide)))))))) rg_name (hw_name (by decide))))))))))))
abbrev s_fraction_in : Stmt := (top 34)
abbrev n_fraction_in : List Str := ["word", "left", "gap", "right", "top", "bottom"]
abbrev p_fraction_in : List Str := ["word"]
theorem sc_fraction_in : FnScope n_fraction_in p_fraction_in (defScope s_fraction_in) := ⟨rfl, rfl, rfl, by decide +kernel, rfl, by decide +kernel, by decide +kernel⟩
def m_fraction_in : MS := (mSeq (mAsg (mUn (gPart "/") (mVar 0)) (gTp 3 (gsCons (gNm 1) (gsCons (gNm 2) (gsCons (gNm 3) gsNil))))) (mSeq (mPar 4 5 (mCons (mCall F_signed_number (mCons (mVar 1) mNil)) (mCons (mIf (mTest (mBin gNeA (mVw 2) (mC (.str "")))) (mCall F_plain_number (mCons (mVar 3) mNil)) (mC (.int 1))) mNil))) (mSeq (mIfS (mOr (mTest (mBin gIsN (mVw 4) (mC .non))) (mOr (mTest (mBin gIsN (mVw 5) (mC .non))) (mAnd (mTest (mBin gNeA (mVw 2) (mC (.str "")))) (mTest (mBin gLtA (mVw 5) (mC (.int 2))))))) (mRet (mC .non)) mNext) (mRet (mIf (mTest (mCall F_is_fraction (mCons (mTup (mCons (mVar 4) (mCons (mVar 5) mNil))) mNil))) (mTup (mCons (mVar 4) (mCons (mVar 5) mNil))) (mC .non))))))
def F_fraction_in : FP := fP 6 1 m_fraction_in
theorem ok_fraction_in {P : Program} {w : World} {K : PySem.W.Frag} {mg : Str → Option Value} {base : Heap} {f : Addr} {fd : FuncData} (B : Bn K mg) (F : FnP K "fraction_in" "fraction_in" s_fraction_in f fd) (c_plain_number : Card P w K mg base "plain_number" p_plain_number 1 (spP ⟨K, mg⟩ F_plain_number)) (c_signed_number : Card P w K mg base "signed_number" p_signed_number 2 (spP ⟨K, mg⟩ F_signed_number)) (c_is_fraction : Card P w K mg base "is_fraction" p_is_fraction 3 (spP ⟨K, mg⟩ F_is_fraction)) : FnG P w K mg base 4 f fd p_fraction_in (spP ⟨K, mg⟩ F_fraction_in) :=
  fn_pureG F sc_fraction_in (by decide) fun cdv A hG outer s H E hr tk po => (
    (ss_cons (s_asg (ps_asg (e_part (e_var (pv 0))) (pg_tup rfl (pgs_cons (pg_name (i := 1) sc_fraction_in.nd rfl (Or.inl rfl)) (pgs_cons (pg_name (i := 2) sc_fraction_in.nd rfl (Or.inl rfl)) (pgs_cons (pg_name (i := 3) sc_fraction_in.nd rfl (Or.inl rfl)) pgs_nil))))) (rg_tup (rgs_cons rg_name (rgs_cons rg_name (rgs_cons rg_name rgs_nil)))))
      (ss_cons (s_par (ps_par rfl sc_fraction_in.nd rfl rfl (by decide) rfl rfl (a_cons (e_card c_signed_number hr (by decide) hG (pz_of tk) rfl (a_cons (e_var (pv 1)) a_nil)) (a_cons (e_if (t_cmp (op_or op_ne (op_neD hr.units)) rd_neA (v_var (pv 2)) (e_v e_str) (nomark _)) (e_card c_plain_number hr (by decide) hG (pz_of tk) rfl (a_cons (e_var (pv 3)) a_nil)) e_int) a_nil)) rfl))
      (ss_cons (s_if (ps_if (L2.PW.pt (w_or (t_cmp op_isN rd_isN (v_var (pv 4)) (e_v e_non) (nomark _)) (w_or (t_cmp op_isN rd_isN (v_var (pv 5)) (e_v e_non) (nomark _)) (w_or1 (L2.PW.pt (w_and (t_cmp (op_or op_ne (op_neD hr.units)) rd_neA (v_var (pv 2)) (e_v e_str) (nomark _)) (w_and1 (t_cmp (op_or op_lt (op_ltT hr.units0)) rd_ltA (v_var (pv 5)) (e_v e_int) (nomark _))))))))) (ss_one (s_ret (ps_ret e_non))) ss_nil))
      (ss_one (s_ret (ps_ret (e_if (t_val (e_card c_is_fraction hr (by decide) hG (pz_of tk) rfl (a_cons (e_tup (a_cons (e_var (pv 4)) (a_cons (e_var (pv 5)) a_nil))) a_nil))) (e_tup (a_cons (e_var (pv 4)) (a_cons (e_var (pv 5)) a_nil))) e_non))))))))
abbrev s_parse_rule : Stmt := (top 41)
abbrev n_parse_rule : List Str := ["text", "words", "parts", "is_open", "index", "word", "is_third", "part", "rule", "place"]
abbrev p_parse_rule : List Str := ["text"]
theorem sc_parse_rule : FnScope n_parse_rule p_parse_rule (defScope s_parse_rule) := ⟨rfl, rfl, rfl, by decide +kernel, rfl, by decide +kernel, by decide +kernel⟩
def m_parse_rule : MS := (mSeq (mParX3 1 2 3 (xE (mCall F_words_of (mCons (mVar 0) mNil)) (xF (mNew mNil) (xE (mC (.bl true)) xNil)))) (mSeq (mFor (iEn (mCons (mVar 1) mNil)) (gTp 2 (gsCons (gNm 4) (gsCons (gNm 5) gsNil))) (mPost [4, 5, 6, 7] (mSeq (mIfS (mNot (mTest (mVar 3))) mNever mNext) (mSeq (mSet 6 (mBin gEqA (mBin gMod (mVw 4) (mC (.int 3))) (mC (.int 2)))) (mSeq (mSet 3 (mOrV (mNotV (mVar 6)) (mBin gEqA (mCutS (mVar 5) (mSome (mUn gNeg (mC (.int 1)))) mNo) (mC (.str ";"))))) (mSeq (mSet 7 (mCall F_fraction_in (mCons (mIf (mAnd (mTest (mVar 6)) (mTest (mVar 3))) (mCutS (mVar 5) mNo (mSome (mUn gNeg (mC (.int 1))))) (mVar 5)) mNil))) (mSeq (mIfS (mTest (mBin gIsN (mVw 7) (mC .non))) mNever mNext) (mApp 2 (mVar 7))))))))) (mSeq (mSet 8 (mOfL (mLc (iR3 (mCons (mC (.int 0)) (mCons (mCB gLen (mCons (mVw 2) mNil)) (mCons (mC (.int 3)) mNil)))) (gNm 9) mYes (mTuple (mOfL (mCut (mVw 2) (mSome (mVar 9)) (mSome (mBin gAdd (mVw 9) (mC (.int 3))))))) [9]))) (mSeq (mIfS (mOr (mTest (mVar 3)) (mTest (mBin gNeA (mCall F_rule_fault (mCons (mVar 8) mNil)) (mTup mNil)))) mNever mNext) (mRet (mVar 8))))))
def F_parse_rule : FP := fP 10 1 m_parse_rule
theorem ok_parse_rule {P : Program} {w : World} {K : PySem.W.Frag} {mg : Str → Option Value} {base : Heap} {f : Addr} {fd : FuncData} (B : Bn K mg) (F : FnP K "parse_rule" "parse_rule" s_parse_rule f fd) (c_words_of : Card P w K mg base "words_of" p_words_of 3 (spP ⟨K, mg⟩ F_words_of)) (c_rule_fault : Card P w K mg base "rule_fault" p_rule_fault 5 (spP ⟨K, mg⟩ F_rule_fault)) (c_fraction_in : Card P w K mg base "fraction_in" p_fraction_in 4 (spP ⟨K, mg⟩ F_fraction_in)) : FnG P w K mg base 6 f fd p_parse_rule (spP ⟨K, mg⟩ F_parse_rule) :=
  fn_pureG F sc_parse_rule (by decide) fun cdv A hG outer s H E hr tk po => (
    (ss_cons (s_asgX3 (ps_asg (pe_tup (x_e (e_card c_words_of hr (by decide) hG (pz_of tk) rfl (a_cons (e_var (pv 0)) a_nil)) (x_f (f_lst a_nil) (x_e e_bl x_nil)))) (pg_tup rfl (pgs_cons (pg_name (i := 1) sc_parse_rule.nd rfl (Or.inl rfl)) (pgs_cons (pg_name (i := 2) sc_parse_rule.nd rfl (Or.inr rfl)) (pgs_cons (pg_name (i := 3) sc_parse_rule.nd rfl (Or.inl rfl)) pgs_nil))))))
      (ss_cons (s_for (ps_for po rfl (i_enum (pi_enum rfl B.b_enumerate (a_cons (e_var (pv 1)) a_nil))) (pg_tup rfl (pgs_cons (pg_name (i := 4) sc_parse_rule.nd rfl (Or.inl rfl)) (pgs_cons (pg_name (i := 5) sc_parse_rule.nd rfl (Or.inl rfl)) pgs_nil))) (ss_post (ss_cons (s_if (ps_if (t_not (t_val (e_var (pv 3)))) (ss_one s_never) ss_nil))
      (ss_cons (s_set (ps_set (i := 6) sc_parse_rule.nd rfl (Or.inl rfl) (e_cmp (op_or op_eq (op_eqD hr.units)) rd_eqA (e_v (e_bin op_mod rd_mod (v_var (pv 4)) (e_v e_int))) (e_v e_int) (nomark _))))
      (ss_cons (s_set (ps_set (i := 3) sc_parse_rule.nd rfl (Or.inl rfl) (e_or (e_not (e_var (pv 6))) (e_one (e_cmp (op_or op_eq (op_eqD hr.units)) rd_eqA (e_v (e_cutS (e_var (pv 5)) (o_some (e_un un_neg rd_neg (e_v e_int))) o_no)) (e_v e_str) (nomark _))))))
      (ss_cons (s_set (ps_set (i := 7) sc_parse_rule.nd rfl (Or.inl rfl) (e_card c_fraction_in hr (by decide) hG (pz_of tk) rfl (a_cons (e_if (L2.PW.pt (w_and (t_val (e_var (pv 6))) (w_and1 (t_val (e_var (pv 3)))))) (e_cutS (e_var (pv 5)) o_no (o_some (e_un un_neg rd_neg (e_v e_int)))) (e_var (pv 5))) a_nil))))
      (ss_cons (s_if (ps_if (t_cmp op_isN rd_isN (v_var (pv 7)) (e_v e_non) (nomark _)) (ss_one s_never) ss_nil))
      (ss_one (s_app (ps_expr (pe_bm PySem.F.plainAttrs_list PySem.F.slot_list_append PySem.F.type_list_append mt_append (pv 2) (pa_cons (e_var (pv 7)) pa_nil)))))))))))) (rg_tup (rgs_cons rg_name (rgs_cons rg_name rgs_nil))))
      (ss_cons (s_set_lc (ps_setLc (i := 8) (own := [("place", 9)]) (g := (gName 9)) rfl sc_parse_rule.nd rfl rfl rfl (i_r3 (pi_range3 rfl B.b_range (a_cons e_int (a_cons (e_callB call_len_seq rd_len rfl B.b_len boot_len (w_cons (v_var (pv 2)) w_nil)) (a_cons e_int a_nil))))) (blkOk_by (own := [("place", 9)]) (N := n_parse_rule) (sc := defScope s_parse_rule) (by decide +kernel)) (fun _ _ _ _ _ => (pg_name (i := 9) sc_parse_rule.nd rfl (Or.inl rfl))) (fun _ _ _ _ _ => t_yes) (fun _ _ _ _ _ => (e_tuple (pe_callTy call_tuple_of rfl B.b_tuple boot_tuple (pa_cons (e_v (e_f (f_cut (v_var (pv 2)) (o_some (e_var (pv 9))) (o_some (e_bin op_add rd_add (v_var (pv 9)) (e_v e_int)))))) pa_nil))))) rg_name (hw_name (by decide)))
      (ss_cons (s_if (ps_if (L2.PW.pt (w_or (t_val (e_var (pv 3))) (w_or1 (t_cmp (op_or op_ne (op_neD hr.units)) rd_neA (e_v (e_card c_rule_fault hr (by decide) hG (pz_of tk) rfl (a_cons (e_var (pv 8)) a_nil))) (e_v (e_tup a_nil)) (nomark _))))) (ss_one s_never) ss_nil))
      (ss_one (s_ret (ps_ret (e_var (pv 8))))))))))
abbrev s_is_unit_move : Stmt := (top 25)
abbrev n_is_unit_move : List Str := ["value"]
abbrev p_is_unit_move : List Str := ["value"]
theorem sc_is_unit_move : FnScope n_is_unit_move p_is_unit_move (defScope s_is_unit_move) := ⟨rfl, rfl, rfl, by decide +kernel, rfl, by decide +kernel, by decide +kernel⟩
def m_is_unit_move : MS := (mRet (mAndV (mCall F_are_integers (mCons (mVar 0) (mCons (mC (.int 6)) mNil))) (mBin (gInT false) (mBin gSub (mBin gMul (mBin gIx (mVw 0) (mC (.int 0))) (mBin gIx (mVw 0) (mC (.int 3)))) (mBin gMul (mBin gIx (mVw 0) (mC (.int 1))) (mBin gIx (mVw 0) (mC (.int 2))))) (mTup (mCons (mC (.int 1)) (mCons (mUn gNeg (mC (.int 1))) mNil))))))
def F_is_unit_move : FP := fP 1 1 m_is_unit_move
theorem ok_is_unit_move {P : Program} {w : World} {K : PySem.W.Frag} {mg : Str → Option Value} {base : Heap} {f : Addr} {fd : FuncData} (B : Bn K mg) (F : FnP K "is_unit_move" "is_unit_move" s_is_unit_move f fd) (c_are_integers : Card P w K mg base "are_integers" p_are_integers 2 (spP ⟨K, mg⟩ F_are_integers)) : FnG P w K mg base 3 f fd p_is_unit_move (spP ⟨K, mg⟩ F_is_unit_move) :=
  fn_pureG F sc_is_unit_move (by decide) fun cdv A hG outer s H E hr tk po => (
    (ss_one (s_ret (ps_ret (e_and (e_card c_are_integers hr (by decide) hG (pz_of tk) rfl (a_cons (e_var (pv 0)) (a_cons e_int a_nil))) (e_one (e_cmp op_in_seq (rd_inT (neg := false)) (e_v (e_bin op_sub rd_sub (e_v (e_bin op_mulW rd_mul (e_v (e_ix ix_seq rd_ix (v_var (pv 0)) (e_v e_int))) (e_v (e_ix ix_seq rd_ix (v_var (pv 0)) (e_v e_int))))) (e_v (e_bin op_mulW rd_mul (e_v (e_ix ix_seq rd_ix (v_var (pv 0)) (e_v e_int))) (e_v (e_ix ix_seq rd_ix (v_var (pv 0)) (e_v e_int))))))) (e_v (e_tup (a_cons e_int (a_cons (e_un un_neg rd_neg (e_v e_int)) a_nil)))) rfl)))))))
abbrev s_require_move : Stmt := (top 27)
abbrev n_require_move : List Str := ["move"]
abbrev p_require_move : List Str := ["move"]
theorem sc_require_move : FnScope n_require_move p_require_move (defScope s_require_move) := ⟨rfl, rfl, rfl, by decide +kernel, rfl, by decide +kernel, by decide +kernel⟩
def m_require_move : MS := (mIfS (mNot (mTest (mCall F_is_unit_move (mCons (mVar 0) mNil)))) mNever mNext)
def F_require_move : FP := fP 1 1 m_require_move
theorem ok_require_move {P : Program} {w : World} {K : PySem.W.Frag} {mg : Str → Option Value} {base : Heap} {f : Addr} {fd : FuncData} (B : Bn K mg) (F : FnP K "require_move" "require_move" s_require_move f fd) (c_is_unit_move : Card P w K mg base "is_unit_move" p_is_unit_move 3 (spP ⟨K, mg⟩ F_is_unit_move)) : FnG P w K mg base 4 f fd p_require_move (spP ⟨K, mg⟩ F_require_move) :=
  fn_pureG F sc_require_move (by decide) fun cdv A hG outer s H E hr tk po => (
    (ss_one (s_if (ps_if (t_not (t_val (e_card c_is_unit_move hr (by decide) hG (pz_of tk) rfl (a_cons (e_var (pv 0)) a_nil)))) (ss_one s_never) ss_nil))))
abbrev s_format_move : Stmt := (top 38)
abbrev n_format_move : List Str := ["move", "number"]
abbrev p_format_move : List Str := ["move"]
theorem sc_format_move : FnScope n_format_move p_format_move (defScope s_format_move) := ⟨rfl, rfl, rfl, by decide +kernel, rfl, by decide +kernel, by decide +kernel⟩
def m_format_move : MS := (mSeq (mDrop (mCall F_require_move (mCons (mVar 0) mNil))) (mRet (mUn (gJoin " ") (mOfL (mLc (iSeq (mVar 0)) (gNm 1) mYes (mCB gStr (mCons (mVw 1) mNil)) [1])))))
def F_format_move : FP := fP 2 1 m_format_move
theorem ok_format_move {P : Program} {w : World} {K : PySem.W.Frag} {mg : Str → Option Value} {base : Heap} {f : Addr} {fd : FuncData} (B : Bn K mg) (F : FnP K "format_move" "format_move" s_format_move f fd) (c_require_move : Card P w K mg base "require_move" p_require_move 4 (spP ⟨K, mg⟩ F_require_move)) : FnG P w K mg base 5 f fd p_format_move (spP ⟨K, mg⟩ F_format_move) :=
  fn_pureG F sc_format_move (by decide) fun cdv A hG outer s H E hr tk po => (
    (ss_cons (s_drop (ps_expr (e_card c_require_move hr (by decide) hG (pz_of tk) rfl (a_cons (e_var (pv 0)) a_nil))))
      (ss_one (s_ret (ps_ret (e_join e_str (e_v (e_f (f_lc (pe_lc (own := [("number", 1)]) (g := (gName 1)) rfl sc_format_move.nd (i_seq (pi_list (e_var (pv 0))) (pi_tup (e_var (pv 0)))) (blkOk_by (own := [("number", 1)]) (N := n_format_move) (sc := defScope s_format_move) (by decide +kernel)) (fun _ _ _ _ _ => (pg_name (i := 1) sc_format_move.nd rfl (Or.inl rfl))) (fun _ _ _ _ _ => t_yes) (fun _ _ _ _ _ => (e_callTy call_strA rd_str rfl B.b_str (by decide +kernel) (w_cons (v_var (pv 1)) w_nil)))) rg_name (hw_name (by decide)))))))))))
abbrev s_parse_move : Stmt := (top 42)
abbrev n_parse_move : List Str := ["text", "words", "numbers", "word"]
abbrev p_parse_move : List Str := ["text"]
theorem sc_parse_move : FnScope n_parse_move p_parse_move (defScope s_parse_move) := ⟨rfl, rfl, rfl, by decide +kernel, rfl, by decide +kernel, by decide +kernel⟩
def m_parse_move : MS := (mSeq (mSet 1 (mCall F_words_of (mCons (mVar 0) mNil))) (mSeq (mSet 2 (mOfL (mLc (iSeq (mOfL (mCut (mVw 1) mNo (mSome (mC (.int 6)))))) (gNm 3) mYes (mCall F_signed_number (mCons (mVar 3) mNil)) [3]))) (mSeq (mIfS (mTest (mBin gIn (mC .non) (mVw 2))) mNever mNext) (mSeq (mIfS (mTest (mBin gGt (mCB gLen (mCons (mVw 1) mNil)) (mC (.int 6)))) mNever mNext) (mSeq (mIfS (mOr (mTest (mBin gLtA (mCB gLen (mCons (mVw 2) mNil)) (mC (.int 6)))) (mTest (mBin (gInT true) (mBin gSub (mBin gMul (mBin gIx (mVw 2) (mC (.int 0))) (mBin gIx (mVw 2) (mC (.int 3)))) (mBin gMul (mBin gIx (mVw 2) (mC (.int 1))) (mBin gIx (mVw 2) (mC (.int 2))))) (mTup (mCons (mC (.int 1)) (mCons (mUn gNeg (mC (.int 1))) mNil)))))) mNever mNext) (mRet (mTuple (mVw 2))))))))
def F_parse_move : FP := fP 4 1 m_parse_move
theorem ok_parse_move {P : Program} {w : World} {K : PySem.W.Frag} {mg : Str → Option Value} {base : Heap} {f : Addr} {fd : FuncData} (B : Bn K mg) (F : FnP K "parse_move" "parse_move" s_parse_move f fd) (c_words_of : Card P w K mg base "words_of" p_words_of 3 (spP ⟨K, mg⟩ F_words_of)) (c_signed_number : Card P w K mg base "signed_number" p_signed_number 2 (spP ⟨K, mg⟩ F_signed_number)) : FnG P w K mg base 4 f fd p_parse_move (spP ⟨K, mg⟩ F_parse_move) :=
  fn_pureG F sc_parse_move (by decide) fun cdv A hG outer s H E hr tk po => (
    (ss_cons (s_set (ps_set (i := 1) sc_parse_move.nd rfl (Or.inl rfl) (e_card c_words_of hr (by decide) hG (pz_of tk) rfl (a_cons (e_var (pv 0)) a_nil))))
      (ss_cons (s_set_lc (ps_setLc (i := 2) (own := [("word", 3)]) (g := (gName 3)) rfl sc_parse_move.nd rfl rfl rfl (i_seq (pi_list (e_f (f_cut (v_var (pv 1)) o_no (o_some (e_globx rfl B.k_MOVE_WORDS))))) (pi_tup (e_f (f_cut (v_var (pv 1)) o_no (o_some (e_globx rfl B.k_MOVE_WORDS)))))) (blkOk_by (own := [("word", 3)]) (N := n_parse_move) (sc := defScope s_parse_move) (by decide +kernel)) (fun _ _ _ _ _ => (pg_name (i := 3) sc_parse_move.nd rfl (Or.inl rfl))) (fun _ _ _ _ _ => t_yes) (fun _ _ _ _ _ => (e_card c_signed_number hr (by decide) hG pz0 rfl (a_cons (e_var (pv 3)) a_nil)))) rg_name (hw_name (by decide)))
      (ss_cons (s_if (ps_if (t_cmp (op_inD (hu65 hr)) rd_in (e_v e_non) (v_var (pv 2)) rfl) (ss_one s_never) ss_nil))
      (ss_cons (s_if (ps_if (t_cmp op_gt rd_gt (e_v (e_callB call_len_seq rd_len rfl B.b_len boot_len (w_cons (v_var (pv 1)) w_nil))) (e_v (e_globx rfl B.k_MOVE_WORDS)) (nomark _)) (ss_one s_never) ss_nil))
      (ss_cons (s_if (ps_if (L2.PW.pt (w_or (t_cmp (op_or op_lt (op_ltT hr.units0)) rd_ltA (e_v (e_callB call_len_seq rd_len rfl B.b_len boot_len (w_cons (v_var (pv 2)) w_nil))) (e_v (e_globx rfl B.k_MOVE_WORDS)) (nomark _)) (w_or1 (t_cmp op_notIn_seq (rd_inT (neg := true)) (e_v (e_bin op_sub rd_sub (e_v (e_bin op_mulW rd_mul (e_v (e_ix ix_seq rd_ix (v_var (pv 2)) (e_v e_int))) (e_v (e_ix ix_seq rd_ix (v_var (pv 2)) (e_v e_int))))) (e_v (e_bin op_mulW rd_mul (e_v (e_ix ix_seq rd_ix (v_var (pv 2)) (e_v e_int))) (e_v (e_ix ix_seq rd_ix (v_var (pv 2)) (e_v e_int))))))) (e_v (e_tup (a_cons e_int (a_cons (e_un un_neg rd_neg (e_v e_int)) a_nil)))) rfl)))) (ss_one s_never) ss_nil))
      (ss_one (s_ret (ps_ret (e_tuple (pe_callTy call_tuple_of rfl B.b_tuple boot_tuple (pa_cons (v_var (pv 2)) pa_nil))))))))))))
abbrev s_law : Stmt := (top 44)
abbrev n_law : List Str := ["_law_script", "_law_fences", "_law_words", "_law_rules", "_law_moves", "_law_some"]
abbrev p_law : List Str := ["_law_script"]
theorem sc_law : FnScope n_law p_law (defScope s_law) := ⟨rfl, rfl, rfl, by decide +kernel, rfl, by decide +kernel, by decide +kernel⟩
def m_law : MS := (mSeq (mSet 1 (mOfL (mNew (mCons (mTup (mCons (mC (.int 2)) (mCons (mOfL (mNew (mCons (mTup (mCons (mC (.int 0)) (mCons (mC (.int 0)) mNil))) (mCons (mTup (mCons (mC (.int 2)) (mCons (mC (.int 0)) mNil))) (mCons (mTup (mCons (mC (.int 0)) (mCons (mC (.int 1)) mNil))) mNil))))) (mCons (mOfL (mNew (mCons (mC (.int 0)) (mCons (mC (.int 2)) mNil)))) mNil)))) (mCons (mTup (mCons (mC (.int 6)) (mCons (mOfL (mNew (mCons (mTup (mCons (mUn gNeg (mC (.int 3))) (mCons (mC (.int 2)) mNil))) mNil))) (mCons (mOfL (mNew mNil)) mNil)))) (mCons (mTup (mCons (mC (.int 30)) (mCons (mOfL (mNew (mCons (mTup (mCons (mUn gNeg (mC (.int 1))) (mCons (mUn gNeg (mC (.int 10))) mNil))) (mCons (mTup (mCons (mC (.int 0)) (mCons (mC (.int 9)) mNil))) mNil)))) (mCons (mOfL (mNew (mCons (mC (.int 1)) mNil))) mNil)))) mNil)))))) (mSeq (mSet 2 (mOfL (mNew (mCons (mC (.str "2: 0,0 2,0 0,1 / 0 2")) (mCons (mC (.str "6: -3,2")) (mCons (mC (.str "30: -1,-10 0,9 / 1")) mNil)))))) (mSeq (mIfS (mOr (mTest (mBin gNeA (mOfL (mLc (iSeq (mVar 1)) (gNm 5) mYes (mCall F_format_fence (mCons (mVar 5) mNil)) [5])) (mVw 2))) (mTest (mBin gNeA (mOfL (mLc (iSeq (mVar 2)) (gNm 5) mYes (mCall F_parse_fence (mCons (mVar 5) mNil)) [5])) (mVw 1)))) (mRet (mC (.bl false))) mNext) (mSeq (mSet 3 (mOfL (mNew (mCons (mOfL (mNew (mCons (mTup (mCons (mTup (mCons (mC (.int 1)) (mCons (mC (.int 4)) mNil))) (mCons (mTup (mCons (mC (.int 1)) (mCons (mC (.int 1)) mNil))) (mCons (mTup (mCons (mC (.int 1)) (mCons (mC (.int 1)) mNil))) mNil)))) (mCons (mTup (mCons (mTup (mCons (mC (.int 1)) (mCons (mC (.int 4)) mNil))) (mCons (mTup (mCons (mC (.int 1)) (mCons (mC (.int 1)) mNil))) (mCons (mTup (mCons (mC (.int 3)) (mCons (mC (.int 4)) mNil))) mNil)))) mNil)))) (mCons (mOfL (mNew (mCons (mTup (mCons (mTup (mCons (mC (.int 0)) (mCons (mC (.int 1)) mNil))) (mCons (mTup (mCons (mUn gNeg (mC (.int 3))) (mCons (mC (.int 2)) mNil))) (mCons (mTup (mCons (mUn gNeg (mC (.int 7))) (mCons (mC (.int 1)) mNil))) mNil)))) mNil))) mNil))))) (mSeq (mSet 2 (mOfL (mNew (mCons (mC (.str "1/4 1 1; 1/4 1 3/4")) (mCons (mC (.str "0 -3/2 -7")) mNil))))) (mSeq (mIfS (mOr (mTest (mBin gNeA (mOfL (mLc (iSeq (mVar 3)) (gNm 5) mYes (mCall F_format_rule (mCons (mVar 5) mNil)) [5])) (mVw 2))) (mTest (mBin gNeA (mOfL (mLc (iSeq (mVar 2)) (gNm 5) mYes (mCall F_parse_rule (mCons (mVar 5) mNil)) [5])) (mVw 3)))) (mRet (mC (.bl false))) mNext) (mSeq (mSet 4 (mOfL (mNew (mCons (mTup (mCons (mC (.int 1)) (mCons (mC (.int 0)) (mCons (mC (.int 0)) (mCons (mC (.int 1)) (mCons (mUn gNeg (mC (.int 3))) (mCons (mC (.int 0)) mNil))))))) (mCons (mTup (mCons (mC (.int 0)) (mCons (mC (.int 1)) (mCons (mC (.int 1)) (mCons (mC (.int 0)) (mCons (mC (.int 0)) (mCons (mC (.int 0)) mNil))))))) (mCons (mTup (mCons (mUn gNeg (mC (.int 1))) (mCons (mC (.int 0)) (mCons (mC (.int 12)) (mCons (mC (.int 1)) (mCons (mC (.int 0)) (mCons (mBin gPow (mC (.int 10)) (mC (.int 30))) mNil))))))) mNil)))))) (mSeq (mSet 2 (mOfL (mNew (mCons (mC (.str "1 0 0 1 -3 0")) (mCons (mC (.str "0 1 1 0 0 0")) (mCons (mC (.str "-1 0 12 1 0 1000000000000000000000000000000")) mNil)))))) (mRet (mAndV (mBin gEqA (mOfL (mLc (iSeq (mVar 4)) (gNm 5) mYes (mCall F_format_move (mCons (mVar 5) mNil)) [5])) (mVw 2)) (mBin gEqA (mOfL (mLc (iSeq (mVar 2)) (gNm 5) mYes (mCall F_parse_move (mCons (mVar 5) mNil)) [5])) (mVw 4))))))))))))
def F_law : FP := fP 6 1 m_law
theorem ok_law {P : Program} {w : World} {K : PySem.W.Frag} {mg : Str → Option Value} {base : Heap} {f : Addr} {fd : FuncData} (B : Bn K mg) (F : FnP K "law" "law" s_law f fd) (c_format_fence : Card P w K mg base "format_fence" p_format_fence 7 (spP ⟨K, mg⟩ F_format_fence)) (c_parse_fence : Card P w K mg base "parse_fence" p_parse_fence 6 (spP ⟨K, mg⟩ F_parse_fence)) (c_format_rule : Card P w K mg base "format_rule" p_format_rule 6 (spP ⟨K, mg⟩ F_format_rule)) (c_parse_rule : Card P w K mg base "parse_rule" p_parse_rule 6 (spP ⟨K, mg⟩ F_parse_rule)) (c_format_move : Card P w K mg base "format_move" p_format_move 5 (spP ⟨K, mg⟩ F_format_move)) (c_parse_move : Card P w K mg base "parse_move" p_parse_move 4 (spP ⟨K, mg⟩ F_parse_move)) : FnG P w K mg base 8 f fd p_law (spP ⟨K, mg⟩ F_law) :=
  fn_pureG F sc_law (by decide) fun cdv A hG outer s H E hr tk po => (
    (ss_cons (s_set (ps_set (i := 1) sc_law.nd rfl (Or.inl rfl) (e_f (f_lst (a_cons (e_tup (a_cons e_int (a_cons (e_f (f_lst (a_cons (e_tup (a_cons e_int (a_cons e_int a_nil))) (a_cons (e_tup (a_cons e_int (a_cons e_int a_nil))) (a_cons (e_tup (a_cons e_int (a_cons e_int a_nil))) a_nil))))) (a_cons (e_f (f_lst (a_cons e_int (a_cons e_int a_nil)))) a_nil)))) (a_cons (e_tup (a_cons e_int (a_cons (e_f (f_lst (a_cons (e_tup (a_cons (e_un un_neg rd_neg (e_v e_int)) (a_cons e_int a_nil))) a_nil))) (a_cons (e_f (f_lst a_nil)) a_nil)))) (a_cons (e_tup (a_cons e_int (a_cons (e_f (f_lst (a_cons (e_tup (a_cons (e_un un_neg rd_neg (e_v e_int)) (a_cons (e_un un_neg rd_neg (e_v e_int)) a_nil))) (a_cons (e_tup (a_cons e_int (a_cons e_int a_nil))) a_nil)))) (a_cons (e_f (f_lst (a_cons e_int a_nil))) a_nil)))) a_nil)))))))
      (ss_cons (s_set (ps_set (i := 2) sc_law.nd rfl (Or.inl rfl) (e_f (f_lst (a_cons e_str (a_cons e_str (a_cons e_str a_nil)))))))
      (ss_cons (s_if (ps_if (L2.PW.pt (w_or (t_cmp (op_or op_ne (op_neD hr.units)) rd_neA (e_v (e_f (f_lc (pe_lc (own := [("_law_some", 5)]) (g := (gName 5)) rfl sc_law.nd (i_seq (pi_list (e_var (pv 1))) (pi_tup (e_var (pv 1)))) (blkOk_by (own := [("_law_some", 5)]) (N := n_law) (sc := defScope s_law) (by decide +kernel)) (fun _ _ _ _ _ => (pg_name (i := 5) sc_law.nd rfl (Or.inl rfl))) (fun _ _ _ _ _ => t_yes) (fun _ _ _ _ _ => (e_card c_format_fence hr (by decide) hG pz0 rfl (a_cons (e_var (pv 5)) a_nil)))) rg_name (hw_name (by decide))))) (v_var (pv 2)) (nomark _)) (w_or1 (t_cmp (op_or op_ne (op_neD hr.units)) rd_neA (e_v (e_f (f_lc (pe_lc (own := [("_law_some", 5)]) (g := (gName 5)) rfl sc_law.nd (i_seq (pi_list (e_var (pv 2))) (pi_tup (e_var (pv 2)))) (blkOk_by (own := [("_law_some", 5)]) (N := n_law) (sc := defScope s_law) (by decide +kernel)) (fun _ _ _ _ _ => (pg_name (i := 5) sc_law.nd rfl (Or.inl rfl))) (fun _ _ _ _ _ => t_yes) (fun _ _ _ _ _ => (e_card c_parse_fence hr (by decide) hG pz0 rfl (a_cons (e_var (pv 5)) a_nil)))) rg_name (hw_name (by decide))))) (v_var (pv 1)) (nomark _))))) (ss_one (s_ret (ps_ret e_bl))) ss_nil))
      (ss_cons (s_set (ps_set (i := 3) sc_law.nd rfl (Or.inl rfl) (e_f (f_lst (a_cons (e_f (f_lst (a_cons (e_tup (a_cons (e_tup (a_cons e_int (a_cons e_int a_nil))) (a_cons (e_tup (a_cons e_int (a_cons e_int a_nil))) (a_cons (e_tup (a_cons e_int (a_cons e_int a_nil))) a_nil)))) (a_cons (e_tup (a_cons (e_tup (a_cons e_int (a_cons e_int a_nil))) (a_cons (e_tup (a_cons e_int (a_cons e_int a_nil))) (a_cons (e_tup (a_cons e_int (a_cons e_int a_nil))) a_nil)))) a_nil)))) (a_cons (e_f (f_lst (a_cons (e_tup (a_cons (e_tup (a_cons e_int (a_cons e_int a_nil))) (a_cons (e_tup (a_cons (e_un un_neg rd_neg (e_v e_int)) (a_cons e_int a_nil))) (a_cons (e_tup (a_cons (e_un un_neg rd_neg (e_v e_int)) (a_cons e_int a_nil))) a_nil)))) a_nil))) a_nil))))))
      (ss_cons (s_set (ps_set (i := 2) sc_law.nd rfl (Or.inl rfl) (e_f (f_lst (a_cons e_str (a_cons e_str a_nil))))))
      (ss_cons (s_if (ps_if (L2.PW.pt (w_or (t_cmp (op_or op_ne (op_neD hr.units)) rd_neA (e_v (e_f (f_lc (pe_lc (own := [("_law_some", 5)]) (g := (gName 5)) rfl sc_law.nd (i_seq (pi_list (e_var (pv 3))) (pi_tup (e_var (pv 3)))) (blkOk_by (own := [("_law_some", 5)]) (N := n_law) (sc := defScope s_law) (by decide +kernel)) (fun _ _ _ _ _ => (pg_name (i := 5) sc_law.nd rfl (Or.inl rfl))) (fun _ _ _ _ _ => t_yes) (fun _ _ _ _ _ => (e_card c_format_rule hr (by decide) hG pz0 rfl (a_cons (e_var (pv 5)) a_nil)))) rg_name (hw_name (by decide))))) (v_var (pv 2)) (nomark _)) (w_or1 (t_cmp (op_or op_ne (op_neD hr.units)) rd_neA (e_v (e_f (f_lc (pe_lc (own := [("_law_some", 5)]) (g := (gName 5)) rfl sc_law.nd (i_seq (pi_list (e_var (pv 2))) (pi_tup (e_var (pv 2)))) (blkOk_by (own := [("_law_some", 5)]) (N := n_law) (sc := defScope s_law) (by decide +kernel)) (fun _ _ _ _ _ => (pg_name (i := 5) sc_law.nd rfl (Or.inl rfl))) (fun _ _ _ _ _ => t_yes) (fun _ _ _ _ _ => (e_card c_parse_rule hr (by decide) hG pz0 rfl (a_cons (e_var (pv 5)) a_nil)))) rg_name (hw_name (by decide))))) (v_var (pv 3)) (nomark _))))) (ss_one (s_ret (ps_ret e_bl))) ss_nil))
      (ss_cons (s_set (ps_set (i := 4) sc_law.nd rfl (Or.inl rfl) (e_f (f_lst (a_cons (e_tup (a_cons e_int (a_cons e_int (a_cons e_int (a_cons e_int (a_cons (e_un un_neg rd_neg (e_v e_int)) (a_cons e_int a_nil))))))) (a_cons (e_tup (a_cons e_int (a_cons e_int (a_cons e_int (a_cons e_int (a_cons e_int (a_cons e_int a_nil))))))) (a_cons (e_tup (a_cons (e_un un_neg rd_neg (e_v e_int)) (a_cons e_int (a_cons e_int (a_cons e_int (a_cons e_int (a_cons (e_bin op_powW rd_pow (e_v e_int) (e_v e_int)) a_nil))))))) a_nil)))))))
      (ss_cons (s_set (ps_set (i := 2) sc_law.nd rfl (Or.inl rfl) (e_f (f_lst (a_cons e_str (a_cons e_str (a_cons e_str a_nil)))))))
      (ss_one (s_ret (ps_ret (e_and (e_cmp (op_or op_eq (op_eqD hr.units)) rd_eqA (e_v (e_f (f_lc (pe_lc (own := [("_law_some", 5)]) (g := (gName 5)) rfl sc_law.nd (i_seq (pi_list (e_var (pv 4))) (pi_tup (e_var (pv 4)))) (blkOk_by (own := [("_law_some", 5)]) (N := n_law) (sc := defScope s_law) (by decide +kernel)) (fun _ _ _ _ _ => (pg_name (i := 5) sc_law.nd rfl (Or.inl rfl))) (fun _ _ _ _ _ => t_yes) (fun _ _ _ _ _ => (e_card c_format_move hr (by decide) hG pz0 rfl (a_cons (e_var (pv 5)) a_nil)))) rg_name (hw_name (by decide))))) (v_var (pv 2)) (nomark _)) (e_one (e_cmp (op_or op_eq (op_eqD hr.units)) rd_eqA (e_v (e_f (f_lc (pe_lc (own := [("_law_some", 5)]) (g := (gName 5)) rfl sc_law.nd (i_seq (pi_list (e_var (pv 2))) (pi_tup (e_var (pv 2)))) (blkOk_by (own := [("_law_some", 5)]) (N := n_law) (sc := defScope s_law) (by decide +kernel)) (fun _ _ _ _ _ => (pg_name (i := 5) sc_law.nd rfl (Or.inl rfl))) (fun _ _ _ _ _ => t_yes) (fun _ _ _ _ _ => (e_card c_parse_move hr (by decide) hG pz0 rfl (a_cons (e_var (pv 5)) a_nil)))) rg_name (hw_name (by decide))))) (v_var (pv 4)) (nomark _))))))))))))))))
def d_0 : He.DefD := ⟨("is_integer", none), "is_integer", "is_integer", defArgs s_is_integer, defBody s_is_integer, defScope s_is_integer, [], []⟩
def d_1 : He.DefD := ⟨("is_between", none), "is_between", "is_between", defArgs s_is_between, defBody s_is_between, defScope s_is_between, [], []⟩
def d_2 : He.DefD := ⟨("turn_at", none), "turn_at", "turn_at", defArgs s_turn_at, defBody s_turn_at, defScope s_turn_at, [], []⟩
def d_3 : He.DefD := ⟨("are_around", none), "are_around", "are_around", defArgs s_are_around, defBody s_are_around, defScope s_are_around, [], []⟩
def d_4 : He.DefD := ⟨("are_integers", none), "are_integers", "are_integers", defArgs s_are_integers, defBody s_are_integers, defScope s_are_integers, [], []⟩
def d_5 : He.DefD := ⟨("is_place", none), "is_place", "is_place", defArgs s_is_place, defBody s_is_place, defScope s_is_place, [], []⟩
def d_6 : He.DefD := ⟨("are_corners", none), "are_corners", "are_corners", defArgs s_are_corners, defBody s_are_corners, defScope s_are_corners, [], []⟩
def d_7 : He.DefD := ⟨("are_sides", none), "are_sides", "are_sides", defArgs s_are_sides, defBody s_are_sides, defScope s_are_sides, [], []⟩
def d_8 : He.DefD := ⟨("sides_of", none), "sides_of", "sides_of", defArgs s_sides_of, defBody s_sides_of, defScope s_sides_of, [], []⟩
def d_9 : He.DefD := ⟨("fence_fault", none), "fence_fault", "fence_fault", defArgs s_fence_fault, defBody s_fence_fault, defScope s_fence_fault, [], []⟩
def d_10 : He.DefD := ⟨("require_fence", none), "require_fence", "require_fence", defArgs s_require_fence, defBody s_require_fence, defScope s_require_fence, [], []⟩
def d_11 : He.DefD := ⟨("format_fence", none), "format_fence", "format_fence", defArgs s_format_fence, defBody s_format_fence, defScope s_format_fence, [], []⟩
def d_12 : He.DefD := ⟨("words_of", none), "words_of", "words_of", defArgs s_words_of, defBody s_words_of, defScope s_words_of, [], []⟩
def d_13 : He.DefD := ⟨("plain_number", none), "plain_number", "plain_number", defArgs s_plain_number, defBody s_plain_number, defScope s_plain_number, [], []⟩
def d_14 : He.DefD := ⟨("signed_number", none), "signed_number", "signed_number", defArgs s_signed_number, defBody s_signed_number, defScope s_signed_number, [], []⟩
def d_15 : He.DefD := ⟨("corner_in", none), "corner_in", "corner_in", defArgs s_corner_in, defBody s_corner_in, defScope s_corner_in, [], []⟩
def d_16 : He.DefD := ⟨("parse_fence", none), "parse_fence", "parse_fence", defArgs s_parse_fence, defBody s_parse_fence, defScope s_parse_fence, [], []⟩
def d_17 : He.DefD := ⟨("common_divisor", none), "common_divisor", "common_divisor", defArgs s_common_divisor, defBody s_common_divisor, defScope s_common_divisor, [], []⟩
def d_18 : He.DefD := ⟨("is_fraction", none), "is_fraction", "is_fraction", defArgs s_is_fraction, defBody s_is_fraction, defScope s_is_fraction, [], []⟩
def d_19 : He.DefD := ⟨("is_row", none), "is_row", "is_row", defArgs s_is_row, defBody s_is_row, defScope s_is_row, [], []⟩
def d_20 : He.DefD := ⟨("rule_fault", none), "rule_fault", "rule_fault", defArgs s_rule_fault, defBody s_rule_fault, defScope s_rule_fault, [], []⟩
def d_21 : He.DefD := ⟨("fraction_text", none), "fraction_text", "fraction_text", defArgs s_fraction_text, defBody s_fraction_text, defScope s_fraction_text, [], []⟩
def d_22 : He.DefD := ⟨("format_rule", none), "format_rule", "format_rule", defArgs s_format_rule, defBody s_format_rule, defScope s_format_rule, [], []⟩
def d_23 : He.DefD := ⟨("fraction_in", none), "fraction_in", "fraction_in", defArgs s_fraction_in, defBody s_fraction_in, defScope s_fraction_in, [], []⟩
def d_24 : He.DefD := ⟨("parse_rule", none), "parse_rule", "parse_rule", defArgs s_parse_rule, defBody s_parse_rule, defScope s_parse_rule, [], []⟩
def d_25 : He.DefD := ⟨("is_unit_move", none), "is_unit_move", "is_unit_move", defArgs s_is_unit_move, defBody s_is_unit_move, defScope s_is_unit_move, [], []⟩
def d_26 : He.DefD := ⟨("require_move", none), "require_move", "require_move", defArgs s_require_move, defBody s_require_move, defScope s_require_move, [], []⟩
def d_27 : He.DefD := ⟨("format_move", none), "format_move", "format_move", defArgs s_format_move, defBody s_format_move, defScope s_format_move, [], []⟩
def d_28 : He.DefD := ⟨("parse_move", none), "parse_move", "parse_move", defArgs s_parse_move, defBody s_parse_move, defScope s_parse_move, [], []⟩
def d_29 : He.DefD := ⟨("law", none), "law", "law", defArgs s_law, defBody s_law, defScope s_law, [], []⟩
def fn : List He.DefD := [d_0, d_1, d_2, d_3, d_4, d_5, d_6, d_7, d_8, d_9, d_10, d_11, d_12, d_13, d_14, d_15, d_16, d_17, d_18, d_19, d_20, d_21, d_22, d_23, d_24, d_25, d_26, d_27, d_28, d_29]
def fa : List He.Fa := [.glo "is_integer", .glo "is_between", .glo "turn_at", .glo "are_around", .glo "are_integers", .glo "is_place", .glo "are_corners", .glo "are_sides", .glo "sides_of", .glo "fence_fault", .glo "require_fence", .glo "format_fence", .glo "words_of", .glo "plain_number", .glo "signed_number", .glo "corner_in", .glo "parse_fence", .glo "common_divisor", .glo "is_fraction", .glo "is_row", .glo "rule_fault", .glo "fraction_text", .glo "format_rule", .glo "fraction_in", .glo "parse_rule", .glo "is_unit_move", .glo "require_move", .glo "format_move", .glo "parse_move", .glo "law", .free "abs", .free "all", .free "bool", .free "enumerate", .free "int", .free "isinstance", .free "len", .free "list", .free "min", .free "range", .free "str", .free "tuple", .free "zip", .int "MOST_AROUND" 10, .int "MOST_DIGITS" 200, .int "MOST_PARTS" 30, .int "MOST_PLACE" 1000000000000000000000000000000, .int "MOST_ROWS" 30, .int "MOVE_WORDS" 6, .glo "FenceError", .glo "InvalidMove", .glo "InvalidFence", .glo "InvalidRule", .glo "InvalidSyntax"]
def fxs : List Fx := [.isx "FenceError", .isx "InvalidMove", .isx "InvalidFence", .isx "InvalidRule", .isx "InvalidSyntax"]
theorem facts {P : Program} {w : World} {K : PySem.W.Frag} {h : Heap} {mg : Str → Option Value} {f : Addr} (X : K.In h) (G : h.Ns mainGlobals mg) (hfa : mg ("law" : Str) = some (.ref f)) (c0 : SaysY fa fn (AllFx fxs) K) :
    ∃ fd : FuncData, (∀ (s : Shared) (v : Value), BindsTo s fd ⟨[v], []⟩ [("_law_script", v)]) ∧ ∀ base : Heap, K.In base → base.Ns mainGlobals mg → FnG P w K mg base 8 f fd ["_law_script"] (spP ⟨K, mg⟩ F_law) := by
  have c := c0.d
  have cx := c0.more
  obtain ⟨fd_law, D_law⟩ := c.def_ 29 (d := d_29) rfl
  have e := hfa.symm.trans (He.glo_ok X G (c.fact 29 (f := .glo "law") rfl))
  cases e
  have b := FunD.bindsA (ps := p_law) D_law fun _ _ _ _ _ _ us hl => match us, hl with | [_], _ => rfl
  refine ⟨fd_law, fun s v => b s [v] rfl, fun base _ _ => ?_⟩
  have ck : ∀ C ∈ clss, ClsK ⟨K, mg⟩ C atts := fun C hC => nomatch hC
  have tb : TabOk ancX fxs K mg := by
    constructor
    intro E hE
    simp only [ancX, List.map_cons, List.map_nil, List.mem_cons, List.not_mem_nil, or_false] at hE
    rcases hE with rfl | rfl | rfl | rfl | rfl
    · exact ⟨He.glo_ok X G (c.fact 49 (f := .glo "FenceError") rfl), by decide +kernel⟩
    · exact ⟨He.glo_ok X G (c.fact 50 (f := .glo "InvalidMove") rfl), by decide +kernel⟩
    · exact ⟨He.glo_ok X G (c.fact 51 (f := .glo "InvalidFence") rfl), by decide +kernel⟩
    · exact ⟨He.glo_ok X G (c.fact 52 (f := .glo "InvalidRule") rfl), by decide +kernel⟩
    · exact ⟨He.glo_ok X G (c.fact 53 (f := .glo "InvalidSyntax") rfl), by decide +kernel⟩
  have B : Bn K mg := ⟨ck, He.free_ok X G (c.fact 30 (f := .free "abs") rfl), He.free_ok X G (c.fact 31 (f := .free "all") rfl), He.free_ok X G (c.fact 32 (f := .free "bool") rfl), He.free_ok X G (c.fact 33 (f := .free "enumerate") rfl), He.free_ok X G (c.fact 34 (f := .free "int") rfl), He.free_ok X G (c.fact 35 (f := .free "isinstance") rfl), He.free_ok X G (c.fact 36 (f := .free "len") rfl), He.free_ok X G (c.fact 37 (f := .free "list") rfl), He.free_ok X G (c.fact 38 (f := .free "min") rfl), He.free_ok X G (c.fact 39 (f := .free "range") rfl), He.free_ok X G (c.fact 40 (f := .free "str") rfl), He.free_ok X G (c.fact 41 (f := .free "tuple") rfl), He.free_ok X G (c.fact 42 (f := .free "zip") rfl), He.int_ok X G (c.fact 43 (f := .int "MOST_AROUND" 10) rfl), He.int_ok X G (c.fact 44 (f := .int "MOST_DIGITS" 200) rfl), He.int_ok X G (c.fact 45 (f := .int "MOST_PARTS" 30) rfl), He.int_ok X G (c.fact 46 (f := .int "MOST_PLACE" 1000000000000000000000000000000) rfl), He.int_ok X G (c.fact 47 (f := .int "MOST_ROWS" 30) rfl), He.int_ok X G (c.fact 48 (f := .int "MOVE_WORDS" 6) rfl)⟩
  obtain ⟨fd_is_integer, D_is_integer⟩ := c.def_ 0 (d := d_0) rfl
  have g_is_integer := He.glo_ok X G (c.fact 0 (f := .glo "is_integer") rfl)
  have o_is_integer := ok_is_integer (P := P) (w := w) (base := base) B D_is_integer
  have c_is_integer := card_of (x := "is_integer") D_is_integer o_is_integer g_is_integer fun _ _ _ _ _ _ us hl => match us, hl with | [_], _ => rfl
  obtain ⟨fd_is_between, D_is_between⟩ := c.def_ 1 (d := d_1) rfl
  have g_is_between := He.glo_ok X G (c.fact 1 (f := .glo "is_between") rfl)
  have o_is_between := ok_is_between (P := P) (w := w) (base := base) B D_is_between c_is_integer
  have c_is_between := card_of (x := "is_between") D_is_between o_is_between g_is_between fun _ _ _ _ _ _ us hl => match us, hl with | [_, _, _], _ => rfl
  obtain ⟨fd_turn_at, D_turn_at⟩ := c.def_ 2 (d := d_2) rfl
  have g_turn_at := He.glo_ok X G (c.fact 2 (f := .glo "turn_at") rfl)
  have o_turn_at := ok_turn_at (P := P) (w := w) (base := base) B D_turn_at
  have c_turn_at := card_of (x := "turn_at") D_turn_at o_turn_at g_turn_at fun _ _ _ _ _ _ us hl => match us, hl with | [_, _, _], _ => rfl
  obtain ⟨fd_are_around, D_are_around⟩ := c.def_ 3 (d := d_3) rfl
  have g_are_around := He.glo_ok X G (c.fact 3 (f := .glo "are_around") rfl)
  have o_are_around := ok_are_around (P := P) (w := w) (base := base) B D_are_around c_turn_at
  have c_are_around := card_of (x := "are_around") D_are_around o_are_around g_are_around fun _ _ _ _ _ _ us hl => match us, hl with | [_], _ => rfl
  obtain ⟨fd_are_integers, D_are_integers⟩ := c.def_ 4 (d := d_4) rfl
  have g_are_integers := He.glo_ok X G (c.fact 4 (f := .glo "are_integers") rfl)
  have o_are_integers := ok_are_integers (P := P) (w := w) (base := base) B D_are_integers c_is_integer
  have c_are_integers := card_of (x := "are_integers") D_are_integers o_are_integers g_are_integers fun _ _ _ _ _ _ us hl => match us, hl with | [_, _], _ => rfl
  obtain ⟨fd_is_place, D_is_place⟩ := c.def_ 5 (d := d_5) rfl
  have g_is_place := He.glo_ok X G (c.fact 5 (f := .glo "is_place") rfl)
  have o_is_place := ok_is_place (P := P) (w := w) (base := base) B D_is_place c_are_integers
  have c_is_place := card_of (x := "is_place") D_is_place o_is_place g_is_place fun _ _ _ _ _ _ us hl => match us, hl with | [_], _ => rfl
  obtain ⟨fd_are_corners, D_are_corners⟩ := c.def_ 6 (d := d_6) rfl
  have g_are_corners := He.glo_ok X G (c.fact 6 (f := .glo "are_corners") rfl)
  have o_are_corners := ok_are_corners (P := P) (w := w) (base := base) B D_are_corners c_are_around c_is_place
  have c_are_corners := card_of (x := "are_corners") D_are_corners o_are_corners g_are_corners fun _ _ _ _ _ _ us hl => match us, hl with | [_], _ => rfl
  obtain ⟨fd_are_sides, D_are_sides⟩ := c.def_ 7 (d := d_7) rfl
  have g_are_sides := He.glo_ok X G (c.fact 7 (f := .glo "are_sides") rfl)
  have o_are_sides := ok_are_sides (P := P) (w := w) (base := base) B D_are_sides c_is_between
  have c_are_sides := card_of (x := "are_sides") D_are_sides o_are_sides g_are_sides fun _ _ _ _ _ _ us hl => match us, hl with | [_, _], _ => rfl
  obtain ⟨fd_sides_of, D_sides_of⟩ := c.def_ 8 (d := d_8) rfl
  have g_sides_of := He.glo_ok X G (c.fact 8 (f := .glo "sides_of") rfl)
  have o_sides_of := ok_sides_of (P := P) (w := w) (base := base) B D_sides_of
  have c_sides_of := card_of (x := "sides_of") D_sides_of o_sides_of g_sides_of fun _ _ _ _ _ _ us hl => match us, hl with | [_], _ => rfl
  obtain ⟨fd_fence_fault, D_fence_fault⟩ := c.def_ 9 (d := d_9) rfl
  have g_fence_fault := He.glo_ok X G (c.fact 9 (f := .glo "fence_fault") rfl)
  have o_fence_fault := ok_fence_fault (P := P) (w := w) (base := base) B D_fence_fault c_is_between c_are_corners c_are_sides c_sides_of
  have c_fence_fault := card_of (x := "fence_fault") D_fence_fault o_fence_fault g_fence_fault fun _ _ _ _ _ _ us hl => match us, hl with | [_], _ => rfl
  obtain ⟨fd_require_fence, D_require_fence⟩ := c.def_ 10 (d := d_10) rfl
  have g_require_fence := He.glo_ok X G (c.fact 10 (f := .glo "require_fence") rfl)
  have o_require_fence := ok_require_fence (P := P) (w := w) (base := base) B D_require_fence c_fence_fault
  have c_require_fence := card_of (x := "require_fence") D_require_fence o_require_fence g_require_fence fun _ _ _ _ _ _ us hl => match us, hl with | [_], _ => rfl
  obtain ⟨fd_format_fence, D_format_fence⟩ := c.def_ 11 (d := d_11) rfl
  have g_format_fence := He.glo_ok X G (c.fact 11 (f := .glo "format_fence") rfl)
  have o_format_fence := ok_format_fence (P := P) (w := w) (base := base) B D_format_fence c_require_fence
  have c_format_fence := card_of (x := "format_fence") D_format_fence o_format_fence g_format_fence fun _ _ _ _ _ _ us hl => match us, hl with | [_], _ => rfl
  obtain ⟨fd_words_of, D_words_of⟩ := c.def_ 12 (d := d_12) rfl
  have g_words_of := He.glo_ok X G (c.fact 12 (f := .glo "words_of") rfl)
  have o_words_of := ok_words_of (P := P) (w := w) (base := base) B D_words_of
  have c_words_of := card_of (x := "words_of") D_words_of o_words_of g_words_of fun _ _ _ _ _ _ us hl => match us, hl with | [_], _ => rfl
  obtain ⟨fd_plain_number, D_plain_number⟩ := c.def_ 13 (d := d_13) rfl
  have g_plain_number := He.glo_ok X G (c.fact 13 (f := .glo "plain_number") rfl)
  have o_plain_number := ok_plain_number (P := P) (w := w) (base := base) B D_plain_number
  have c_plain_number := card_of (x := "plain_number") D_plain_number o_plain_number g_plain_number fun _ _ _ _ _ _ us hl => match us, hl with | [_], _ => rfl
  obtain ⟨fd_signed_number, D_signed_number⟩ := c.def_ 14 (d := d_14) rfl
  have g_signed_number := He.glo_ok X G (c.fact 14 (f := .glo "signed_number") rfl)
  have o_signed_number := ok_signed_number (P := P) (w := w) (base := base) B D_signed_number c_plain_number
  have c_signed_number := card_of (x := "signed_number") D_signed_number o_signed_number g_signed_number fun _ _ _ _ _ _ us hl => match us, hl with | [_], _ => rfl
  obtain ⟨fd_corner_in, D_corner_in⟩ := c.def_ 15 (d := d_15) rfl
  have g_corner_in := He.glo_ok X G (c.fact 15 (f := .glo "corner_in") rfl)
  have o_corner_in := ok_corner_in (P := P) (w := w) (base := base) B D_corner_in c_signed_number
  have c_corner_in := card_of (x := "corner_in") D_corner_in o_corner_in g_corner_in fun _ _ _ _ _ _ us hl => match us, hl with | [_], _ => rfl
  obtain ⟨fd_parse_fence, D_parse_fence⟩ := c.def_ 16 (d := d_16) rfl
  have g_parse_fence := He.glo_ok X G (c.fact 16 (f := .glo "parse_fence") rfl)
  have o_parse_fence := ok_parse_fence (P := P) (w := w) (base := base) B D_parse_fence c_fence_fault c_words_of c_plain_number c_corner_in
  have c_parse_fence := card_of (x := "parse_fence") D_parse_fence o_parse_fence g_parse_fence fun _ _ _ _ _ _ us hl => match us, hl with | [_], _ => rfl
  obtain ⟨fd_common_divisor, D_common_divisor⟩ := c.def_ 17 (d := d_17) rfl
  have g_common_divisor := He.glo_ok X G (c.fact 17 (f := .glo "common_divisor") rfl)
  have o_common_divisor := ok_common_divisor (P := P) (w := w) (base := base) B D_common_divisor
  have c_common_divisor := card_of (x := "common_divisor") D_common_divisor o_common_divisor g_common_divisor fun _ _ _ _ _ _ us hl => match us, hl with | [_, _], _ => rfl
  obtain ⟨fd_is_fraction, D_is_fraction⟩ := c.def_ 18 (d := d_18) rfl
  have g_is_fraction := He.glo_ok X G (c.fact 18 (f := .glo "is_fraction") rfl)
  have o_is_fraction := ok_is_fraction (P := P) (w := w) (base := base) B D_is_fraction c_are_integers c_common_divisor
  have c_is_fraction := card_of (x := "is_fraction") D_is_fraction o_is_fraction g_is_fraction fun _ _ _ _ _ _ us hl => match us, hl with | [_], _ => rfl
  obtain ⟨fd_is_row, D_is_row⟩ := c.def_ 19 (d := d_19) rfl
  have g_is_row := He.glo_ok X G (c.fact 19 (f := .glo "is_row") rfl)
  have o_is_row := ok_is_row (P := P) (w := w) (base := base) B D_is_row c_is_fraction
  have c_is_row := card_of (x := "is_row") D_is_row o_is_row g_is_row fun _ _ _ _ _ _ us hl => match us, hl with | [_], _ => rfl
  obtain ⟨fd_rule_fault, D_rule_fault⟩ := c.def_ 20 (d := d_20) rfl
  have g_rule_fault := He.glo_ok X G (c.fact 20 (f := .glo "rule_fault") rfl)
  have o_rule_fault := ok_rule_fault (P := P) (w := w) (base := base) B D_rule_fault c_is_row
  have c_rule_fault := card_of (x := "rule_fault") D_rule_fault o_rule_fault g_rule_fault fun _ _ _ _ _ _ us hl => match us, hl with | [_], _ => rfl
  obtain ⟨fd_fraction_text, D_fraction_text⟩ := c.def_ 21 (d := d_21) rfl
  have g_fraction_text := He.glo_ok X G (c.fact 21 (f := .glo "fraction_text") rfl)
  have o_fraction_text := ok_fraction_text (P := P) (w := w) (base := base) B D_fraction_text
  have c_fraction_text := card_of (x := "fraction_text") D_fraction_text o_fraction_text g_fraction_text fun _ _ _ _ _ _ us hl => match us, hl with | [_], _ => rfl
  obtain ⟨fd_format_rule, D_format_rule⟩ := c.def_ 22 (d := d_22) rfl
  have g_format_rule := He.glo_ok X G (c.fact 22 (f := .glo "format_rule") rfl)
  have o_format_rule := ok_format_rule (P := P) (w := w) (base := base) B D_format_rule c_rule_fault c_fraction_text
  have c_format_rule := card_of (x := "format_rule") D_format_rule o_format_rule g_format_rule fun _ _ _ _ _ _ us hl => match us, hl with | [_], _ => rfl
  obtain ⟨fd_fraction_in, D_fraction_in⟩ := c.def_ 23 (d := d_23) rfl
  have g_fraction_in := He.glo_ok X G (c.fact 23 (f := .glo "fraction_in") rfl)
  have o_fraction_in := ok_fraction_in (P := P) (w := w) (base := base) B D_fraction_in c_plain_number c_signed_number c_is_fraction
  have c_fraction_in := card_of (x := "fraction_in") D_fraction_in o_fraction_in g_fraction_in fun _ _ _ _ _ _ us hl => match us, hl with | [_], _ => rfl
  obtain ⟨fd_parse_rule, D_parse_rule⟩ := c.def_ 24 (d := d_24) rfl
  have g_parse_rule := He.glo_ok X G (c.fact 24 (f := .glo "parse_rule") rfl)
  have o_parse_rule := ok_parse_rule (P := P) (w := w) (base := base) B D_parse_rule c_words_of c_rule_fault c_fraction_in
  have c_parse_rule := card_of (x := "parse_rule") D_parse_rule o_parse_rule g_parse_rule fun _ _ _ _ _ _ us hl => match us, hl with | [_], _ => rfl
  obtain ⟨fd_is_unit_move, D_is_unit_move⟩ := c.def_ 25 (d := d_25) rfl
  have g_is_unit_move := He.glo_ok X G (c.fact 25 (f := .glo "is_unit_move") rfl)
  have o_is_unit_move := ok_is_unit_move (P := P) (w := w) (base := base) B D_is_unit_move c_are_integers
  have c_is_unit_move := card_of (x := "is_unit_move") D_is_unit_move o_is_unit_move g_is_unit_move fun _ _ _ _ _ _ us hl => match us, hl with | [_], _ => rfl
  obtain ⟨fd_require_move, D_require_move⟩ := c.def_ 26 (d := d_26) rfl
  have g_require_move := He.glo_ok X G (c.fact 26 (f := .glo "require_move") rfl)
  have o_require_move := ok_require_move (P := P) (w := w) (base := base) B D_require_move c_is_unit_move
  have c_require_move := card_of (x := "require_move") D_require_move o_require_move g_require_move fun _ _ _ _ _ _ us hl => match us, hl with | [_], _ => rfl
  obtain ⟨fd_format_move, D_format_move⟩ := c.def_ 27 (d := d_27) rfl
  have g_format_move := He.glo_ok X G (c.fact 27 (f := .glo "format_move") rfl)
  have o_format_move := ok_format_move (P := P) (w := w) (base := base) B D_format_move c_require_move
  have c_format_move := card_of (x := "format_move") D_format_move o_format_move g_format_move fun _ _ _ _ _ _ us hl => match us, hl with | [_], _ => rfl
  obtain ⟨fd_parse_move, D_parse_move⟩ := c.def_ 28 (d := d_28) rfl
  have g_parse_move := He.glo_ok X G (c.fact 28 (f := .glo "parse_move") rfl)
  have o_parse_move := ok_parse_move (P := P) (w := w) (base := base) B D_parse_move c_words_of c_signed_number
  have c_parse_move := card_of (x := "parse_move") D_parse_move o_parse_move g_parse_move fun _ _ _ _ _ _ us hl => match us, hl with | [_], _ => rfl
  exact ok_law B D_law c_format_fence c_parse_fence c_format_rule c_parse_rule c_format_move c_parse_move
abbrev lawLevel : Nat := 8
end G57
namespace G57
open PySem PySem.Spec PyProof.Rows L2 GX
local macro_rules | `(tactic| walk_at "gx") => `(tactic| try simp only [↓q_mSeq, ↓q_mIfS, ↓q_mSet, ↓q_mOwn, ↓q_mAsg, ↓q_mPar, ↓q_mPar3, ↓q_mParX3, ↓q_mRet, ↓q_mDrop, ↓q_mNever, ↓q_mNext, ↓q_mCont, ↓q_mPost, ↓q_mFor, ↓q_nxO, ↓q_mC, ↓q_mTest, ↓q_mBin, ↓q_mUn, ↓q_mCB, ↓q_mNil, ↓q_mCons, ↓q_mTup, ↓q_mNew, ↓q_mOfL, ↓q_mCall, ↓q_mChain, ↓q_mAnd, ↓q_mOr, ↓q_mNot, ↓q_mIf, ↓q_mAndV, ↓q_mOrV, ↓q_mNotV, ↓q_mCut, ↓q_mSome, ↓q_mNo, ↓q_mCat, ↓q_mTuple, ↓q_iLst, ↓q_iTpl, ↓q_iSeq, ↓q_iR1, ↓q_iZp, ↓q_iEn, ↓q_iR2A, ↓q_mLc, ↓q_mYes, ↓q_opt, ↓q_optL, ↓q_optB, ↓q_xNil, ↓q_xE, ↓q_xF, ↓q_gIi, ↓q_gAdd, ↓q_gSub, ↓q_gLt, ↓q_gLe, ↓q_gGt, ↓q_gGe, ↓q_gLtA, ↓q_gLeA, ↓q_gMul, ↓q_gMod, ↓q_gPow, ↓q_gNeg, ↓q_gAbs, ↓q_gLenL, ↓q_gLenT, ↓q_gEqS, ↓q_gNeS, ↓q_gIsN, ↓q_gNotB, ↓q_gEqI, ↓q_gNeI, ↓q_gEqSA, ↓q_gNeSA, ↓q_ix0, ↓q_ix1, ↓q_ix2, ↓q_ixl0, ↓q_ixl1, ↓q_ixl2, ↓q_p0, ↓q_p1, ↓q_toB, ↓q_toLl, ↓q_toTt, ↓q_toSl, ↓q_toSt, ↓q_toZp, ↓q_toEn, ↓q_toR1, ↓q_toSm, ↓q_gNm, ↓q_gsNil, ↓q_gsCons, ↓q_gTp1, ↓q_gTp2, ↓q_gTpr, ↓q_gTp3, ↓q_gTp4, ↓q_sbind, ↓qwv_0, ↓qwo_0, ↓qx_0, ↓qapp_0, ↓qext_0, ↓qleak_0, ↓qwv_1, ↓qwo_1, ↓qx_1, ↓qapp_1, ↓qext_1, ↓qleak_1, ↓qwv_2, ↓qwo_2, ↓qx_2, ↓qapp_2, ↓qext_2, ↓qleak_2, ↓qwv_3, ↓qwo_3, ↓qx_3, ↓qapp_3, ↓qext_3, ↓qleak_3, ↓qwv_4, ↓qwo_4, ↓qx_4, ↓qapp_4, ↓qext_4, ↓qleak_4, ↓qwv_5, ↓qwo_5, ↓qx_5, ↓qapp_5, ↓qext_5, ↓qleak_5, ↓qwv_6, ↓qwo_6, ↓qx_6, ↓qapp_6, ↓qext_6, ↓qleak_6, ↓qwv_7, ↓qwo_7, ↓qx_7, ↓qapp_7, ↓qext_7, ↓qleak_7, ↓qwv_8, ↓qwo_8, ↓qx_8, ↓qapp_8, ↓qext_8, ↓qleak_8, ↓qwv_9, ↓qwo_9, ↓qx_9, ↓qapp_9, ↓qext_9, ↓qleak_9, ↓qwv_10, ↓qwo_10, ↓qx_10, ↓qapp_10, ↓qext_10, ↓qleak_10, ↓qwv_11, ↓qwo_11, ↓qx_11, ↓qapp_11, ↓qext_11, ↓qleak_11, ↓qwv_12, ↓qwo_12, ↓qx_12, ↓qapp_12, ↓qext_12, ↓qleak_12, ↓qwv_13, ↓qwo_13, ↓qx_13, ↓qapp_13, ↓qext_13, ↓qleak_13, ↓qwv_14, ↓qwo_14, ↓qx_14, ↓qapp_14, ↓qext_14, ↓qleak_14, ↓qwv_15, ↓qwo_15, ↓qx_15, ↓qapp_15, ↓qext_15, ↓qleak_15, ↓q_rok, ↓q_rokL, ↓q_rex, ↓q_eok, ↓q_eokL, ↓q_isi_n_int, ↓q_isi_n_bool, ↓q_isi_n_tuple, ↓q_isi_n_list, ↓q_isi_n_str, ↓q_isi_b_int, ↓q_isi_b_bool, ↓q_isi_b_tuple, ↓q_isi_b_list, ↓q_isi_b_str, ↓q_isi_i_int, ↓q_isi_i_bool, ↓q_isi_i_tuple, ↓q_isi_i_list, ↓q_isi_i_str, ↓q_isi_s_int, ↓q_isi_s_bool, ↓q_isi_s_tuple, ↓q_isi_s_list, ↓q_isi_s_str, ↓q_isi_l_int, ↓q_isi_l_bool, ↓q_isi_l_tuple, ↓q_isi_l_list, ↓q_isi_l_str, ↓q_isi_t_int, ↓q_isi_t_bool, ↓q_isi_t_tuple, ↓q_isi_t_list, ↓q_isi_t_str, ↓q_isi_p_int, ↓q_isi_p_bool, ↓q_isi_p_tuple, ↓q_isi_p_list, ↓q_isi_p_str, ↓q_neP, ↓q_eqP, ↓q_neL, ↓q_eqL, ↓q_neU, ↓q_eqU, ↓q_ltP, perm, wipeR, List.filterMap_cons, List.filterMap_nil, List.set_cons_zero, List.set_cons_succ, List.getElem?_cons_zero, List.getElem?_cons_succ, List.length_cons, List.length_nil, Nat.zero_add, Nat.reduceAdd, Nat.reduceLeDiff, Nat.reduceSub, Int.reduceToNat, Int.reducePow, true_and, and_true, Bool.not_true, Bool.not_false, List.append_nil, List.nil_append, List.cons_append, ↓qwv_16, ↓qwo_16, ↓qx_16, ↓qapp_16, ↓qext_16, ↓qleak_16, ↓qwv_17, ↓qwo_17, ↓qx_17, ↓qapp_17, ↓qext_17, ↓qleak_17, ↓qwv_18, ↓qwo_18, ↓qx_18, ↓qapp_18, ↓qext_18, ↓qleak_18, ↓qwv_19, ↓qwo_19, ↓qx_19, ↓qapp_19, ↓qext_19, ↓qleak_19, ↓qwv_20, ↓qwo_20, ↓qx_20, ↓qapp_20, ↓qext_20, ↓qleak_20, ↓qwv_21, ↓qwo_21, ↓qx_21, ↓qapp_21, ↓qext_21, ↓qleak_21, ↓qwv_22, ↓qwo_22, ↓qx_22, ↓qapp_22, ↓qext_22, ↓qleak_22, ↓qwv_23, ↓qwo_23, ↓qx_23, ↓qapp_23, ↓qext_23, ↓qleak_23, ↓qwv_24, ↓qwo_24, ↓qx_24, ↓qapp_24, ↓qext_24, ↓qleak_24, ↓qwv_25, ↓qwo_25, ↓qx_25, ↓qapp_25, ↓qext_25, ↓qleak_25, ↓qwv_26, ↓qwo_26, ↓qx_26, ↓qapp_26, ↓qext_26, ↓qleak_26, ↓q_suite, ↓q_flatS, ↓q_strS, ↓q_strN, ↓q_isNX, ↓q_isNN])
theorem law_eq (d : D) : F_law [d] = .ok (.bl true) := by kernel_rfl
theorem law_true (ns : List Int) (hl : ns.length ≤ 63) : (F_law [.lst (ns.map D.int)]).af (fun d => d = .bl true) fun _ => False := by
  rw [law_eq, Ro.af_eq]
  rfl
end G57
namespace G57
open PySem PySem.Spec PyProof.Rows L2 GX
abbrev loose0 : List Str := ["FenceError", "InvalidMove", "InvalidFence", "InvalidRule", "InvalidSyntax", "MOST_PARTS", "MOST_AROUND", "MOST_PLACE", "MOST_ROWS", "is_integer", "is_between", "are_integers", "common_divisor", "is_fraction", "turn_at", "is_place", "are_around", "are_corners", "sides_of", "are_sides", "fence_fault", "is_row", "rule_fault", "is_unit_move", "require_fence", "require_move", "MOST_DIGITS", "MOVE_WORDS", "plain_number", "signed_number"]
abbrev loose1 : List Str := ["fraction_text", "fraction_in", "corner_in", "format_fence", "format_rule", "format_move", "words_of", "parse_fence", "parse_rule", "parse_move"]
abbrev loose : List Str := loose0 ++ loose1
abbrev R : PySem.W.OpenRow := PySem.W.OpenLaw.row PySem.Challenge.rw_growfences_k57_texts_as_written
abbrev hk : PySem.W.Hook := hookY 4 fa fn (AllFx fxs)
def ob (s : PySem.W.SharedT) : AlY := obsY 4 fa fn (AllFx fxs) (HandSHeadRun.getT s)
theorem ob_eq (s : PySem.W.SharedT) : ob s = hk.obs s.abs := obsY_eq (HandSHeadRun.getT_eq s)
theorem run (w : World) : HandSHeadRun.RunEq R (PySem.W.view R.prog [44]) hk ob 8000 loose w := by
  intro os
  kernel_rfl
end G57
open PySem PySem.W PySem.Calls PyProof.Rows
theorem PySem.Challenge.cw_growfences_k57_texts_as_written_holds : PySem.Challenge.rw_growfences_k57_texts_as_written.Holds := by
  w_on; o_law
  refine HandSHeadRun.head_any (r := OpenLaw.row PySem.Challenge.rw_growfences_k57_texts_as_written) (q := view (OpenLaw.row PySem.Challenge.rw_growfences_k57_texts_as_written).prog [44]) (H := G57.hk) (ob := G57.ob) (M := 8000) (loose := G57.loose) (d := HandSHeadRun.topDef (OpenLaw.row PySem.Challenge.rw_growfences_k57_texts_as_written).prog 44) (kwd := []) G57.ob_eq
    (by kernel_rfl) (fun s => by kernel_rfl) G57.run (by kernel_rfl) (by kernel_rfl) (by kernel_rfl) (by rfl) (by first | assumption | decide +kernel) (by decide +kernel) ⟨rfl, rfl, rfl, rfl, rfl, by decide +kernel⟩ ?hw ?hc
  case hw => w_witness2
  case hc =>
    refine GX.walk_G (l := PySem.Challenge.rw_growfences_k57_texts_as_written) (n := 63) (k := G57.lawLevel) (x := "_law_script") rfl (by decide) (by kernel_rfl) ⟨rfl, by decide, by decide⟩ ?F
    intro w mg fa h Y G hmg0
    obtain ⟨K, KX, c⟩ := Y
    have hmg : mg ("law" : PySem.Str) = some (.ref fa) := by
      have e : (HandSHeadRun.topDef (OpenLaw.row PySem.Challenge.rw_growfences_k57_texts_as_written).prog 44).name = ("law" : PySem.Str) := by kernel_rfl
      rw [← e]
      exact hmg0
    obtain ⟨fd, hb, hF⟩ := G57.facts (P := (PySem.Challenge.rw_growfences_k57_texts_as_written).prog) (w := w) KX G hmg c
    exact ⟨K, fd, G57.F_law, KX, hb, fun ns hl => GX.Ro.ok_af (G57.law_true ns hl), hF⟩
