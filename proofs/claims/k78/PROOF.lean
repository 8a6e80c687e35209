import PyProof.Rows.All
import Wide.All
import OpenK.AllK
import Wide.FinOn
import HandS.ForMost
import HandS.ForExc
import HandS.HeadHook2
import HandS.IsInst
import HandS.ExcValue
import HandS.ExcIs
import HandS.Lambda
import HandS.Wide
import HandS.More
import HandS.Star
import HandS.TupAny
import HandS.TupMul
import HandS.Style
import HandS.Deep
import HandS.Property
import HandS.ExcOwn
import KE.KStar
import HandS.Text
import KE.KRevSl
import HandS.HeadEnd
import HandS.HeadWalk
import KE.SortKeyHeap
import HandS.Nested
import HandS.SetFor
import HandS.Strs
import KE.KStateDown
import Lean
import HandS.Head0
import HandS.Head1
import HandS.Head2
import PySem.Challenge.RW_oldestbills_k78_books_on_days
set_option Elab.async false
set_option linter.all false
set_option maxRecDepth 100000
set_option maxHeartbeats 4000000
namespace Fx
open PySem PySem.Spec PyProof.Rows L2

/-! ## values, stores, outcomes -/
inductive D where
  | non | bl (b : Bool) | int (i : Int) | str (x : Str)
  | tup (ds : List D) | lst (ds : List D)
  | dK (ks : List Key) (ds : List D) | dT (ks : List (List Key)) (ds : List D)
  | obj (n : Nat) | err (x : Str) | scr (ns : List Int)
inductive MO where
  | lst (ds : List D) | dK (ks : List Key) (ds : List D) | dT (ks : List (List Key)) (ds : List D) | ins (c : Nat) (fs : List (Str × D))
abbrev Sto := List MO
inductive R (a : Type) where
  | ok (x : a) (st : Sto) | exc (c : Nat) (f : List (Str × D)) (st : Sto) | bad
def R.bind {a b : Type} (r : R a) (k : a → Sto → R b) : R b := match r with
  | .ok x st => k x st
  | .exc c f st => .exc c f st
  | .bad => .bad
inductive SV where
  | un | val (d : D) | own (ds : List D) | exn (c : Nat) (f : List (Str × D))
abbrev SEnv := List SV
inductive RS where
  | nx (env : SEnv) (st : Sto) | rt (d : D) (st : Sto) | bk (env : SEnv) (st : Sto) | ct (env : SEnv) (st : Sto)
  | exc (c : Nat) (f : List (Str × D)) (env : SEnv) (st : Sto) | bad
abbrev ME := SEnv → Sto → R D
abbrev MS := SEnv → Sto → RS

mutual
def noLst : D → Bool
  | .tup ds => noLsts ds
  | .lst _ => false
  | .dK _ _ => false
  | .dT _ _ => false
  | .scr _ => false
  | _ => true
def noLsts : List D → Bool
  | [] => true
  | d :: ds => noLst d && noLsts ds
end
def isOwn : SV → Bool
  | .own _ => true
  | _ => false
def noOwn (env : SEnv) : Bool := !env.any isOwn

/-- the classes' names; the tables of code objects that lambdas are written to, with the lambdas' names -/
structure CN where
  nm : Nat → Str
  T : PySem.W.Frag → List (Addr × Str)
instance : CoeFun CN (fun _ => Nat → Str) := ⟨CN.nm⟩

/-! ## the relation -/
section
variable (K : PySem.W.Frag) (cn : CN)
def ca (c : Nat) : Addr := He.ga K (cn.nm c)
def KT (a : Addr) (vs : List V) : Prop := ∃ (o : Obj) (its : Array Value) (n : Nat), K.lookup a = some o ∧ o.cls = .type "tuple" ∧ o.data = .seq its n ∧ its.size ≤ sizeLine ∧ Vals vs its.toList
def KLs (a : Addr) (vs : List V) : Prop := ∃ (o : Obj) (its : Array Value) (n : Nat), K.lookup a = some o ∧ o.cls = .type "list" ∧ o.dict = none ∧ o.data = .seq its n ∧ its.size ≤ sizeLine ∧ Vals vs its.toList
variable (r : List Addr) (H : Hp) (Ex : Addr → Prop)
mutual
inductive RD : V → D → Prop
  | non : RD .non .non
  | bl (b : Bool) : RD (.bl b) (.bl b)
  | int (i : Int) : RD (.int i) (.int i)
  | str (x : Str) : RD (.str x) (.str x)
  | tup {a : Addr} {vs : List V} {ds : List D} : H a = some (.tup vs) → a ∉ r → RDs vs ds → RD (.ref a) (.tup ds)
  | tupK {a : Addr} {vs : List V} {ds : List D} : KT K a vs → RDs vs ds → RD (.ref a) (.tup ds)
  | lst {a : Addr} {vs : List V} {ds : List D} : H a = some (.lst vs) → a ∉ r → ¬ Ex a → RDs vs ds → RD (.ref a) (.lst ds)
  | dK {a : Addr} {ks : List Key} {vs : List V} {ds : List D} : H a = some (.dK (ks.zip vs)) → ks.length = vs.length → a ∉ r → ¬ Ex a → RDs vs ds → RD (.ref a) (.dK ks ds)
  | dT {a : Addr} {ks : List (List Key)} {vs : List V} {ds : List D} : H a = some (.dT (ks.zip vs)) → ks.length = vs.length → a ∉ r → ¬ Ex a → RDs vs ds → RD (.ref a) (.dT ks ds)
  | scr {a : Addr} {ns : List Int} : Rd H a (.lst (ns.map V.int)) → a ∉ r → ¬ Ex a → RD (.ref a) (.scr ns)
  | scrK {a : Addr} {ns : List Int} : KLs K a (ns.map V.int) → RD (.ref a) (.scr ns)
  | obj {n : Nat} {a : Addr} : r[n]? = some a → RD (.ref a) (.obj n)
  | err {x : Str} {a : Addr} : H a = some (L2.ExO (.ref (He.ga K x)) a) → a ∉ r → RD (.ref a) (.err x)
inductive RDs : List V → List D → Prop
  | nil : RDs [] []
  | cons {v : V} {vs : List V} {d : D} {ds : List D} : RD v d → RDs vs ds → RDs (v :: vs) (d :: ds)
end
end
abbrev Nil : Addr → Prop := fun _ => False
abbrev All : Addr → Prop := fun _ => True

section
variable {K : PySem.W.Frag} {cn : CN} {r r' : List Addr} {H H' : Hp} {Ex Ex' : Addr → Prop}
/-- what is kept of the heap for the values -/
def Kept (r : List Addr) (H : Hp) (Ex : Addr → Prop) (r' : List Addr) (H' : Hp) (Ex' : Addr → Prop) : Prop :=
  (∀ (n : Nat) (a : Addr), r[n]? = some a → r'[n]? = some a) ∧
  ∀ b o, H b = some o → b ∉ r → (Ex b → ∀ xs, o ≠ .lst xs) → (∀ ps, o ≠ .tbl ps) → H' b = some o ∧ b ∉ r' ∧ (Ex' b → Ex b)
theorem Kept.at_ (k : Kept r H Ex r' H' Ex') {b : Addr} {o : HO} (h : H b = some o) (hn : b ∉ r) (hx : Ex b → ∀ xs, o ≠ .lst xs) (ht : ∀ ps, o ≠ .tbl ps := by intro _ z; cases z) : H' b = some o ∧ b ∉ r' ∧ (Ex' b → Ex b) := k.2 b o h hn hx ht
theorem Kept.rd (k : Kept r H Ex r' H' Ex') {a : Addr} {u : HO} (h : Rd H a u) (hn : a ∉ r) (hx : Ex a → ∀ xs, u ≠ .lst xs) (ht : ∀ ps, u ≠ .tbl ps := by intro _ z; cases z) : Rd H' a u ∧ a ∉ r' ∧ (Ex' a → Ex a) := by
  rcases h with h | ⟨o, h⟩
  · obtain ⟨h1, h2, h3⟩ := k.2 a u h hn hx ht
    exact ⟨.inl h1, h2, h3⟩
  · obtain ⟨h1, h2, h3⟩ := k.at_ h hn (fun _ xs e => by cases e)
    exact ⟨.inr ⟨o, h1⟩, h2, h3⟩
mutual
theorem RD.kept (k : Kept r H Ex r' H' Ex') : ∀ {v : V} {d : D}, RD K r H Ex v d → RD K r' H' Ex' v d
  | _, _, .non => .non
  | _, _, .bl b => .bl b
  | _, _, .int i => .int i
  | _, _, .str x => .str x
  | _, _, .tup h hn hs => by
    obtain ⟨h1, h2, h3⟩ := k.at_ h hn (fun _ xs e => by cases e)
    exact .tup h1 h2 (RDs.kept k hs)
  | _, _, .tupK h hs => .tupK h (RDs.kept k hs)
  | _, _, .lst h hn hx hs => by
    obtain ⟨h1, h2, h3⟩ := k.at_ h hn (fun z => absurd z hx)
    exact .lst h1 h2 (fun z => hx (h3 z)) (RDs.kept k hs)
  | _, _, .dK h hl hn hx hs => by
    obtain ⟨h1, h2, h3⟩ := k.at_ h hn (fun z => absurd z hx)
    exact .dK h1 hl h2 (fun z => hx (h3 z)) (RDs.kept k hs)
  | _, _, .dT h hl hn hx hs => by
    obtain ⟨h1, h2, h3⟩ := k.at_ h hn (fun z => absurd z hx)
    exact .dT h1 hl h2 (fun z => hx (h3 z)) (RDs.kept k hs)
  | _, _, .scr h hn hx => by
    obtain ⟨h1, h2, h3⟩ := k.rd h hn (fun z => absurd z hx)
    exact .scr h1 h2 (fun z => hx (h3 z))
  | _, _, .scrK h => .scrK h
  | _, _, .obj h => .obj (k.1 _ _ h)
  | _, _, .err h hn => by
    obtain ⟨h1, h2, h3⟩ := k.at_ h hn (fun _ xs e => by cases e)
    exact .err h1 h2
theorem RDs.kept (k : Kept r H Ex r' H' Ex') : ∀ {vs : List V} {ds : List D}, RDs K r H Ex vs ds → RDs K r' H' Ex' vs ds
  | _, _, .nil => .nil
  | _, _, .cons h hs => .cons (RD.kept k h) (RDs.kept k hs)
end
/-- fewer are excluded -/
theorem kept_ex (h : ∀ a, Ex' a → Ex a) : Kept r H Ex r H Ex' := ⟨fun _ _ e => e, fun b o e hn _ _ => ⟨e, hn, h b⟩⟩
mutual
/-- no list in it: whatever is excluded -/
theorem RD.free : ∀ {v : V} {d : D}, RD K r H Ex v d → noLst d = true → RD K r H Ex' v d
  | _, _, .non, _ => .non
  | _, _, .bl b, _ => .bl b
  | _, _, .int i, _ => .int i
  | _, _, .str x, _ => .str x
  | _, _, .tup h hn hs, e => .tup h hn (RDs.free hs (by simpa only [noLst] using e))
  | _, _, .tupK h hs, e => .tupK h (RDs.free hs (by simpa only [noLst] using e))
  | _, _, .lst h hn hx hs, e => by simp [noLst] at e
  | _, _, .dK h hl hn hx hs, e => by simp [noLst] at e
  | _, _, .dT h hl hn hx hs, e => by simp [noLst] at e
  | _, _, .scr h hn hx, e => by simp [noLst] at e
  | _, _, .scrK h, e => by simp [noLst] at e
  | _, _, .obj h, _ => .obj h
  | _, _, .err h hn, _ => .err h hn
theorem RDs.free : ∀ {vs : List V} {ds : List D}, RDs K r H Ex vs ds → noLsts ds = true → RDs K r H Ex' vs ds
  | _, _, .nil, _ => .nil
  | _, _, .cons h hs, e => by
    simp only [noLsts, Bool.and_eq_true] at e
    exact .cons (RD.free h e.1) (RDs.free hs e.2)
end
theorem RD.any (h : RD K r H All v d) : RD K r H Ex v d := h.kept (kept_ex fun _ _ => trivial)
theorem RDs.any (h : RDs K r H All v d) : RDs K r H Ex v d := h.kept (kept_ex fun _ _ => trivial)
theorem RD.nil (h : RD K r H Ex v d) : RD K r H Nil v d := h.kept (kept_ex fun _ z => z.elim)
theorem RDs.nil' (h : RDs K r H Ex v d) : RDs K r H Nil v d := h.kept (kept_ex fun _ z => z.elim)
theorem RDs.length : ∀ {vs : List V} {ds : List D}, RDs K r H Ex vs ds → vs.length = ds.length
  | _, _, .nil => rfl
  | _, _, .cons _ hs => by simp [RDs.length hs]
theorem RDs.get : ∀ {vs : List V} {ds : List D} {i : Nat} {d : D}, RDs K r H Ex vs ds → ds[i]? = some d → ∃ v, vs[i]? = some v ∧ RD K r H Ex v d
  | _, _, _, _, .nil, e => by simp at e
  | _, _, 0, _, .cons h _, e => by simp at e; subst e; exact ⟨_, rfl, h⟩
  | _, _, i + 1, d, .cons _ hs, e => by
    obtain ⟨v, h1, h2⟩ := RDs.get (i := i) (d := d) hs (by simpa using e)
    exact ⟨v, by simpa using h1, h2⟩
theorem RDs.getV : ∀ {vs : List V} {ds : List D} {i : Nat} {v : V}, RDs K r H Ex vs ds → vs[i]? = some v → ∃ d, ds[i]? = some d ∧ RD K r H Ex v d
  | _, _, _, _, .nil, e => by simp at e
  | _, _, 0, _, .cons h _, e => by simp at e; subst e; exact ⟨_, rfl, h⟩
  | _, _, i + 1, d, .cons _ hs, e => by
    obtain ⟨v, h1, h2⟩ := RDs.getV (i := i) (v := d) hs (by simpa using e)
    exact ⟨v, by simpa using h1, h2⟩
theorem RDs.append : ∀ {vs ws : List V} {ds es : List D}, RDs K r H Ex vs ds → RDs K r H Ex ws es → RDs K r H Ex (vs ++ ws) (ds ++ es)
  | _, _, _, _, .nil, g => g
  | _, _, _, _, .cons h hs, g => .cons h (RDs.append hs g)
theorem RDs.take : ∀ {vs : List V} {ds : List D} (n : Nat), RDs K r H Ex vs ds → RDs K r H Ex (vs.take n) (ds.take n)
  | _, _, 0, _ => .nil
  | _, _, _ + 1, .nil => .nil
  | _, _, n + 1, .cons h hs => .cons h (RDs.take n hs)
theorem RDs.drop : ∀ {vs : List V} {ds : List D} (n : Nat), RDs K r H Ex vs ds → RDs K r H Ex (vs.drop n) (ds.drop n)
  | _, _, 0, g => g
  | _, _, _ + 1, .nil => .nil
  | _, _, n + 1, .cons _ hs => RDs.drop n hs
theorem RDs.set : ∀ {vs : List V} {ds : List D} (n : Nat) {v : V} {d : D}, RDs K r H Ex vs ds → RD K r H Ex v d → RDs K r H Ex (vs.set n v) (ds.set n d)
  | _, _, _, _, _, .nil, _ => .nil
  | _, _, 0, _, _, .cons _ hs, g => .cons g hs
  | _, _, n + 1, _, _, .cons h hs, g => .cons h (RDs.set n hs g)
theorem RDs.reverse : ∀ {vs : List V} {ds : List D}, RDs K r H Ex vs ds → RDs K r H Ex vs.reverse ds.reverse
  | _, _, .nil => .nil
  | _, _, .cons h hs => by
    rw [List.reverse_cons, List.reverse_cons]
    exact (RDs.reverse hs).append (.cons h .nil)
theorem RDs.ints : ∀ {vs : List V} {ns : List Int}, RDs K r H Ex vs (ns.map D.int) → vs = ns.map V.int
  | _, [], .nil => rfl
  | _, n :: ns, .cons h hs => by cases h; rw [RDs.ints hs]; rfl
theorem RDs.bls : ∀ {vs : List V} {ns : List Bool}, RDs K r H Ex vs (ns.map D.bl) → vs = ns.map V.bl
  | _, [], .nil => rfl
  | _, n :: ns, .cons h hs => by cases h; rw [RDs.bls hs]; rfl
theorem RDs.strs : ∀ {vs : List V} {ns : List Str}, RDs K r H Ex vs (ns.map D.str) → vs = ns.map V.str
  | _, [], .nil => rfl
  | _, n :: ns, .cons h hs => by cases h; rw [RDs.strs hs]; rfl
end

/-! ## growth -/
structure Grow (r : List Addr) (H : Hp) (r' : List Addr) (H' : Hp) : Prop where
  pre : ∃ l, r' = r ++ l
  new : ∀ a ∈ r', a ∈ r ∨ H a = none
  kq : ∀ a o, H a = some o → a ∉ r → (∀ ps, o ≠ .tbl ps) → H' a = some o
  tb : ∀ a ps, H a = some (.tbl ps) → a ∉ r → ∃ ps', H' a = some (.tbl ps')
theorem Grow.kp {r r' : List Addr} {H H' : Hp} (g : Grow r H r' H') (a : Addr) (o : HO) (h : H a = some o) (hn : a ∉ r) (ht : ∀ ps, o ≠ .tbl ps := by intro _ z; cases z) : H' a = some o := g.kq a o h hn ht
section
variable {K : PySem.W.Frag} {cn : CN} {r r1 r2 r' : List Addr} {H H1 H2 H' : Hp} {Ex Ex' : Addr → Prop} {v : V} {d : D} {vs : List V} {ds : List D}
theorem Grow.some_ {r r' : List Addr} {H H' : Hp} (g : Grow r H r' H') {a : Addr} {o : HO} (h : H a = some o) (hn : a ∉ r) : ∃ o', H' a = some o' := by
  by_cases ht : ∃ ps, o = .tbl ps
  · obtain ⟨ps, rfl⟩ := ht
    obtain ⟨ps', z⟩ := g.tb a ps h hn
    exact ⟨_, z⟩
  · exact ⟨o, g.kq a o h hn fun ps z => ht ⟨ps, z⟩⟩
theorem Grow.refl : Grow r H r H := ⟨⟨[], by simp⟩, fun a h => .inl h, fun _ _ e _ _ => e, fun a ps e _ => ⟨ps, e⟩⟩
theorem Grow.out (g : Grow r H r' H') {a : Addr} {o : HO} (e : H a = some o) (hn : a ∉ r) : a ∉ r' := fun h => by
  rcases g.new a h with z | z
  · exact hn z
  · rw [z] at e; cases e
theorem Grow.trans (a : Grow r H r1 H1) (b : Grow r1 H1 r2 H2) : Grow r H r2 H2 := by
  obtain ⟨l1, e1⟩ := a.pre
  obtain ⟨l2, e2⟩ := b.pre
  refine ⟨⟨l1 ++ l2, by rw [e2, e1, List.append_assoc]⟩, fun x hx => ?_, fun x o e hn ht => b.kq x o (a.kq x o e hn ht) (a.out e hn) ht, fun x ps e hn => (a.tb x ps e hn).elim fun ps' z => b.tb x ps' z (a.out e hn)⟩
  rcases b.new x hx with h | h
  · exact a.new x h
  · by_cases hr : x ∈ r
    · exact .inl hr
    · right
      cases q : H x with
      | none => rfl
      | some o =>
        by_cases ht : ∃ ps, o = .tbl ps
        · obtain ⟨ps, rfl⟩ := ht
          obtain ⟨ps', z⟩ := a.tb x ps q hr
          rw [z] at h; cases h
        · rw [a.kq x o q hr (fun ps z => ht ⟨ps, z⟩)] at h; cases h
theorem Grow.kept (g : Grow r H r' H') : Kept r H Ex r' H' Ex := by
  obtain ⟨l, e⟩ := g.pre
  refine ⟨fun n a h => ?_, fun b o h hn _ ht => ⟨g.kq b o h hn ht, g.out h hn, fun z => z⟩⟩
  rw [e, List.getElem?_append_left (List.getElem?_eq_some_iff.mp h).1]
  exact h
theorem Grow.rd (g : Grow r H r' H') (h : RD K r H Ex v d) : RD K r' H' Ex v d := h.kept g.kept
theorem Grow.rds (g : Grow r H r' H') (h : RDs K r H Ex vs ds) : RDs K r' H' Ex vs ds := h.kept g.kept
/-- a new object that is none of the store's -/
theorem Grow.lay {p : Addr} {o : HO} (h : H p = none) : Grow r H r (upd H p o) := ⟨⟨[], by simp⟩, fun a h => .inl h, fun a u e _ _ => by rw [upd_ne (ne_of_none e h)]; exact e, fun a ps e _ => ⟨ps, by rw [upd_ne (ne_of_none e h)]; exact e⟩⟩
end

/-! ## the store -/
def MOk (K : PySem.W.Frag) (cn : CN) (r : List Addr) (H : Hp) (a : Addr) : MO → Prop
  | .lst ds => ∃ vs, H a = some (.lst vs) ∧ RDs K r H All vs ds
  | .dK ks ds => ∃ vs, H a = some (.dK (ks.zip vs)) ∧ ks.length = vs.length ∧ RDs K r H All vs ds
  | .dT ks ds => ∃ vs, H a = some (.dT (ks.zip vs)) ∧ ks.length = vs.length ∧ RDs K r H All vs ds
  | .ins c fs => ∃ dx vs, H a = some (.ins (ca K cn c) dx ((fs.map (·.1)).zip vs)) ∧ fs.length = vs.length ∧ RDs K r H All vs (fs.map (·.2))
structure RelSt (K : PySem.W.Frag) (cn : CN) (r : List Addr) (st : Sto) (H : Hp) : Prop where
  nd : r.Nodup
  len : r.length = st.length
  ok : ∀ (n : Nat) (mo : MO) (a : Addr), st[n]? = some mo → r[n]? = some a → MOk K cn r H a mo
  tb : LamX.Tabs (cn.T K) H
theorem tabs_lay {T : List (Addr × Str)} {H : Hp} {p : Addr} {o : HO} (t : LamX.Tabs T H) (h : H p = none) : LamX.Tabs T (upd H p o) := t.ext fun b u e => by rw [upd_ne (ne_of_none e h)]; exact e
/-- what is rewritten is no table, no code object -/
def plainHO : HO → Prop
  | .lst _ => True
  | .dK _ => True
  | .dT _ => True
  | .ins _ _ _ => True
  | _ => False
theorem tabs_over {T : List (Addr × Str)} {H : Hp} {p : Addr} {u o : HO} (t : LamX.Tabs T H) (h : H p = some u) (hu : plainHO u) : LamX.Tabs T (upd H p o) := fun q hq => by
  obtain ⟨ps, h1, h2, h3⟩ := t q hq
  refine ⟨ps, ?_, h2, fun pos cv hc => ?_⟩
  · rw [upd_ne (fun z => by rw [z, h] at h1; cases h1; exact hu)]; exact h1
  · obtain ⟨c, e1, e2⟩ := h3 pos cv hc
    refine ⟨c, e1, ?_⟩
    rw [upd_ne (fun z => by
      rw [z, h] at e2
      have e3 := Option.some.inj e2
      unfold LamX.CodeO at e3
      rw [e3] at hu
      exact hu)]
    exact e2
section
variable {K : PySem.W.Frag} {cn : CN} {r r1 r2 r' : List Addr} {H H1 H2 H' : Hp} {Ex Ex' : Addr → Prop} {v : V} {d : D} {vs : List V} {ds : List D} {st : Sto}
theorem MOk.some {a : Addr} {mo : MO} (h : MOk K cn r H a mo) : ∃ o, H a = some o := by
  cases mo with
  | lst ds => obtain ⟨vs, h, _⟩ := h; exact ⟨_, h⟩
  | dK ks ds => obtain ⟨vs, h, _⟩ := h; exact ⟨_, h⟩
  | dT ks ds => obtain ⟨vs, h, _⟩ := h; exact ⟨_, h⟩
  | ins c fs => obtain ⟨dx, vs, h, _⟩ := h; exact ⟨_, h⟩
theorem RelSt.some (s : RelSt K cn r st H) {a : Addr} (h : a ∈ r) : ∃ o, H a = some o := by
  obtain ⟨n, hn, e⟩ := List.getElem_of_mem h
  have h2 : n < st.length := by rw [← s.len]; exact hn
  exact (s.ok n st[n] a (List.getElem?_eq_getElem h2) (by rw [List.getElem?_eq_getElem hn, e])).some
theorem MOk.plain {a : Addr} {mo : MO} (h : MOk K cn r H a mo) : ∃ o, H a = Option.some o ∧ plainHO o := by
  cases mo with
  | lst ds => obtain ⟨vs, h, _⟩ := h; exact ⟨_, h, trivial⟩
  | dK ks ds => obtain ⟨vs, h, _⟩ := h; exact ⟨_, h, trivial⟩
  | dT ks ds => obtain ⟨vs, h, _⟩ := h; exact ⟨_, h, trivial⟩
  | ins c fs => obtain ⟨dx, vs, h, _⟩ := h; exact ⟨_, h, trivial⟩
theorem RelSt.plain (s : RelSt K cn r st H) {a : Addr} (h : a ∈ r) : ∃ o, H a = Option.some o ∧ plainHO o := by
  obtain ⟨n, hn, e⟩ := List.getElem_of_mem h
  have h2 : n < st.length := by rw [← s.len]; exact hn
  exact (s.ok n st[n] a (List.getElem?_eq_getElem h2) (by rw [List.getElem?_eq_getElem hn, e])).plain
theorem RelSt.out (s : RelSt K cn r st H) {p : Addr} (h : H p = none) : p ∉ r := fun z => by
  obtain ⟨o, e⟩ := s.some z
  rw [e] at h; cases h
/-- an object is as it was, the values kept -/
theorem MOk.kept {a : Addr} {mo : MO} (h : MOk K cn r H a mo) (k : Kept r H All r' H' All) (e : H' a = H a) : MOk K cn r' H' a mo := by
  cases mo with
  | lst ds => obtain ⟨vs, h, q⟩ := h; exact ⟨vs, e.trans h, q.kept k⟩
  | dK ks ds => obtain ⟨vs, h, l, q⟩ := h; exact ⟨vs, e.trans h, l, q.kept k⟩
  | dT ks ds => obtain ⟨vs, h, l, q⟩ := h; exact ⟨vs, e.trans h, l, q.kept k⟩
  | ins c fs => obtain ⟨dx, vs, h, l, q⟩ := h; exact ⟨dx, vs, e.trans h, l, q.kept k⟩
/-- the heap grows besides the store -/
theorem RelSt.lay (s : RelSt K cn r st H) {p : Addr} {o : HO} (h : H p = none) : RelSt K cn r st (upd H p o) :=
  ⟨s.nd, s.len, fun n mo a h1 h2 => (s.ok n mo a h1 h2).kept (Grow.lay h).kept (by
    obtain ⟨u, e⟩ := (s.ok n mo a h1 h2).some
    rw [upd_ne (ne_of_none e h)]), tabs_lay s.tb h⟩
/-- an object that is neither of the store nor of a value kept changes -/
theorem RelSt.other (s : RelSt K cn r st H) {p : Addr} {o : HO} (hp : p ∉ r) {xs : List V} (hl : H p = Option.some (.lst xs)) : RelSt K cn r st (upd H p o) :=
  ⟨s.nd, s.len, fun n mo a h1 h2 => (s.ok n mo a h1 h2).kept ⟨fun _ _ e => e, fun b u e hn hx _ => by
    have hb : b ≠ p := fun z => by
      subst z
      rw [hl] at e; cases e
      exact hx trivial xs rfl
    exact ⟨by rw [upd_ne hb]; exact e, hn, fun z => z⟩⟩ (by
    have hb : a ≠ p := fun z => hp (z ▸ List.mem_of_getElem? h2)
    rw [upd_ne hb]), tabs_over s.tb hl trivial⟩
/-- the n-th object is rewritten -/
theorem RelSt.write (s : RelSt K cn r st H) {n : Nat} {a : Addr} {mo : MO} {o : HO} (hn : r[n]? = Option.some a) (hm : ∀ H', Kept r H All r H' All → H' a = Option.some o → MOk K cn r H' a mo) :
    RelSt K cn r (st.set n mo) (upd H a o) := by
  have hk : Kept r H All r (upd H a o) All := ⟨fun _ _ e => e, fun b u e hb _ _ => by
    have : b ≠ a := fun z => hb (z ▸ List.mem_of_getElem? hn)
    exact ⟨by rw [upd_ne this]; exact e, hb, fun z => z⟩⟩
  obtain ⟨u0, hu0, hpl⟩ := s.plain (List.mem_of_getElem? hn)
  refine ⟨s.nd, by simpa using s.len, fun m mo' b h1 h2 => ?_, tabs_over s.tb hu0 hpl⟩
  by_cases e : n = m
  · subst e
    rw [hn] at h2; cases h2
    have hl : n < st.length := by rw [← s.len]; exact (List.getElem?_eq_some_iff.mp hn).1
    rw [List.getElem?_set_self hl] at h1
    cases h1
    exact hm _ hk upd_same
  · rw [List.getElem?_set_ne e] at h1
    refine (s.ok m mo' b h1 h2).kept hk ?_
    have : b ≠ a := fun z => e ((List.getElem?_inj (List.getElem?_eq_some_iff.mp hn).1 s.nd).mp (by rw [hn, h2, z]))
    rw [upd_ne this]
theorem Grow.write {n : Nat} {a : Addr} {o : HO} (hn : r[n]? = Option.some a) : Grow r H r (upd H a o) := ⟨⟨[], by simp⟩, fun _ h => .inl h, fun b u e hb _ => by
  have : b ≠ a := fun z => hb (z ▸ List.mem_of_getElem? hn)
  rw [upd_ne this]; exact e, fun b ps e hb => by
  have : b ≠ a := fun z => hb (z ▸ List.mem_of_getElem? hn)
  exact ⟨ps, by rw [upd_ne this]; exact e⟩⟩
/-- a new object of the store -/
theorem RelSt.push (s : RelSt K cn r st H) {p : Addr} {mo : MO} {o : HO} (h : H p = none) (hm : ∀ H', Kept r H All (r ++ [p]) H' All → H' p = Option.some o → MOk K cn (r ++ [p]) H' p mo) :
    RelSt K cn (r ++ [p]) (st ++ [mo]) (upd H p o) := by
  have hp := s.out h
  have hk : Kept r H All (r ++ [p]) (upd H p o) All := ⟨fun n a e => by rw [List.getElem?_append_left (List.getElem?_eq_some_iff.mp e).1]; exact e, fun b u e hb _ _ => by
    have : b ≠ p := ne_of_none e h
    exact ⟨by rw [upd_ne this]; exact e, by simp [hb, this], fun z => z⟩⟩
  refine ⟨?_, by simp [s.len], fun m mo' b h1 h2 => ?_, tabs_lay s.tb h⟩
  · rw [List.nodup_append]
    exact ⟨s.nd, by simp, fun a ha b hb e => by simp at hb; subst hb; subst e; exact hp ha⟩
  · by_cases e : m < r.length
    · rw [List.getElem?_append_left e] at h2
      rw [List.getElem?_append_left (by rw [← s.len]; exact e)] at h1
      refine (s.ok m mo' b h1 h2).kept hk ?_
      have : b ≠ p := fun z => hp (z ▸ List.mem_of_getElem? h2)
      rw [upd_ne this]
    · have hl : m < (r ++ [p]).length := (List.getElem?_eq_some_iff.mp h2).1
      have em : m = r.length := by simp at hl; omega
      subst em
      rw [List.getElem?_append_right (Nat.le_refl _)] at h2
      rw [List.getElem?_append_right (by rw [s.len]; exact Nat.le_refl _)] at h1
      simp [s.len] at h1 h2
      subst h1; subst h2
      exact hm _ hk upd_same
theorem Grow.push {p : Addr} {o : HO} (h : H p = none) : Grow r H (r ++ [p]) (upd H p o) := ⟨⟨[p], rfl⟩, fun a ha => by
  rcases List.mem_append.mp ha with z | z
  · exact .inl z
  · simp at z; subst z; exact .inr h, fun a u e _ _ => by rw [upd_ne (ne_of_none e h)]; exact e, fun a ps e _ => ⟨ps, by rw [upd_ne (ne_of_none e h)]; exact e⟩⟩
end
end Fx

namespace Fx
open PySem PySem.Spec PyProof.Rows L2

/-! ## the slots -/
def Own (env : SEnv) (s : L2.St) (a : Addr) : Prop := ∃ (i : Nat) (ds : List D), env[i]? = some (.own ds) ∧ s[i]? = some (some (.ref a))
/-- the own lists of the frame, and those that are not to be had -/
abbrev OwnX (env : SEnv) (s : L2.St) (Ex : Addr → Prop) : Addr → Prop := fun a => Own env s a ∨ Ex a
structure EnvOk (K : PySem.W.Frag) (cn : CN) (Ex : Addr → Prop) (r : List Addr) (H : Hp) (env : SEnv) (s : L2.St) : Prop where
  len : env.length = s.length
  val : ∀ (i : Nat) (d : D), env[i]? = some (.val d) → ∃ v, s[i]? = some (some v) ∧ RD K r H (OwnX env s Ex) v d
  own : ∀ (i : Nat) (ds : List D), env[i]? = some (.own ds) → ∃ (a : Addr) (vs : List V), s[i]? = some (some (.ref a)) ∧ H a = some (.lst vs) ∧ a ∉ r ∧ RDs K r H (OwnX env s Ex) vs ds
  inj : ∀ (i j : Nat) (ds es : List D) (a : Addr), env[i]? = some (.own ds) → env[j]? = some (.own es) → s[i]? = some (some (.ref a)) → s[j]? = some (some (.ref a)) → i = j
section
variable {K : PySem.W.Frag} {cn : CN} {Ex : Addr → Prop} {r r' : List Addr} {H H' : Hp} {env : SEnv} {s : L2.St} {st st' : Sto} {cl : Bool}
theorem EnvOk.grow (e : EnvOk K cn Ex r H env s) (g : Grow r H r' H') : EnvOk K cn Ex r' H' env s :=
  ⟨e.len, fun i d h => let ⟨v, h1, h2⟩ := e.val i d h; ⟨v, h1, g.rd h2⟩, fun i ds h => let ⟨a, vs, h1, h2, h3, h4⟩ := e.own i ds h; ⟨a, vs, h1, g.kp _ _ h2 h3, g.out h2 h3, g.rds h4⟩, e.inj⟩
/-- what is not to be had stands -/
def ExO (Ex : Addr → Prop) (H : Hp) : Prop := ∀ a, Ex a → H a ≠ none
theorem ExO.grow (x : ExO Ex H) (g : Grow r H r' H') (rs : RelSt K cn r' st' H') : ExO Ex H' := fun a h => by
  by_cases hr : a ∈ r'
  · obtain ⟨o, e⟩ := rs.some hr
    rw [e]; exact fun z => by cases z
  · cases q : H a with
    | none => exact absurd q (x a h)
    | some o =>
      have hn : a ∉ r := fun z => hr (by obtain ⟨l, e⟩ := g.pre; rw [e]; exact List.mem_append_left _ z)
      obtain ⟨o', e'⟩ := g.some_ q hn
      rw [e']; exact fun z => by cases z
/-- the state at an expression; cl: no own list is read -/
structure At (K : PySem.W.Frag) (cn : CN) (cl : Bool) (Ex : Addr → Prop) (r : List Addr) (st : Sto) (H : Hp) (env : SEnv) (s : L2.St) : Prop where
  rs : RelSt K cn r st H
  eo : EnvOk K cn Ex r H env s
  xo : ExO Ex H
  ow : cl = false → ∀ a, Own env s a → ¬ Ex a
  oi : cl = true → ∀ a, Own env s a → Ex a
theorem At.grow (a : At K cn cl Ex r st H env s) (g : Grow r H r' H') (rs : RelSt K cn r' st' H') : At K cn cl Ex r' st' H' env s := ⟨rs, a.eo.grow g, a.xo.grow g rs, a.ow, a.oi⟩
end

/-! ## what is wanted behind an expression -/
def ExR (K : PySem.W.Frag) (cn : CN) (r : List Addr) (H : Hp) (c : Nat) (f : List (Str × D)) (cls : Value) (dd : Option Addr) : Prop :=
  cls = .ref (ca K cn c) ∧ ((f = [] ∧ dd = none) ∨ (f ≠ [] ∧ ∃ (a : Addr) (vs : List V), dd = some a ∧ H a = some (.xd ((f.map (·.1)).zip vs)) ∧ a ∉ r ∧ f.length = vs.length ∧ RDs K r H All vs (f.map (·.2))))
def PostE (K : PySem.W.Frag) (cn : CN) (W : WX) (Ex : Addr → Prop) (x : R D) (r : List Addr) (H : Hp) (s : L2.St) (Q : VK) : Prop := match x with
  | .ok d st => ∀ r' v H', Grow r H r' H' → RelSt K cn r' st H' → RD K r' H' Ex v d → Q v H'
  | .exc c f st => ∀ r' H' cls dd, Grow r H r' H' → RelSt K cn r' st H' → ExR K cn r' H' c f cls dd → W cls dd s H'
  | .bad => False
def PostA (K : PySem.W.Frag) (cn : CN) (W : WX) (Ex : Addr → Prop) (x : R (List D)) (r : List Addr) (H : Hp) (s : L2.St) (Q : List V → Hp → Prop) : Prop := match x with
  | .ok ds st => ∀ r' vs H', Grow r H r' H' → RelSt K cn r' st H' → RDs K r' H' Ex vs ds → Q vs H'
  | .exc c f st => ∀ r' H' cls dd, Grow r H r' H' → RelSt K cn r' st H' → ExR K cn r' H' c f cls dd → W cls dd s H'
  | .bad => False
def PostT (K : PySem.W.Frag) (cn : CN) (W : WX) (x : R D) (r : List Addr) (H : Hp) (s : L2.St) (Q : Bool → Hp → Prop) : Prop := match x with
  | .ok (.bl b) st => ∀ r' H', Grow r H r' H' → RelSt K cn r' st H' → Q b H'
  | .exc c f st => ∀ r' H' cls dd, Grow r H r' H' → RelSt K cn r' st H' → ExR K cn r' H' c f cls dd → W cls dd s H'
  | _ => False
def tM (K : PySem.W.Frag) (cn : CN) (W : WX) (cl : Bool) (m : ME) : TE := fun s H Q => ∃ r env st Ex, At K cn cl Ex r st H env s ∧ PostE K cn W Ex (m env st) r H s Q
def tMA (K : PySem.W.Frag) (cn : CN) (W : WX) (cl : Bool) (m : SEnv → Sto → R (List D)) : TA := fun s H Q => ∃ r env st Ex, At K cn cl Ex r st H env s ∧ PostA K cn W Ex (m env st) r H s Q
def tMT (K : PySem.W.Frag) (cn : CN) (W : WX) (cl : Bool) (m : ME) : TT := fun s H Q => ∃ r env st Ex, At K cn cl Ex r st H env s ∧ PostT K cn W (m env st) r H s Q
abbrev SndE (X : Cx) (cn : CN) (W : WX) (cl : Bool) (e : Expr) (m : ME) : Prop := PE X e (tM X.K cn W cl m)
abbrev SndA (X : Cx) (cn : CN) (W : WX) (cl : Bool) (es : List Expr) (m : SEnv → Sto → R (List D)) : Prop := PA X es (tMA X.K cn W cl m)
abbrev SndT (X : Cx) (cn : CN) (W : WX) (cl : Bool) (e : Expr) (m : ME) : Prop := PT X e (tMT X.K cn W cl m)

theorem pe_imp {X : Cx} {e : Expr} {t t' : TE} (h : PE X e t) (i : ∀ s H Q, t' s H Q → t s H Q) : PE X e t' := ⟨fun pins s σ H Q I q => h.run pins s σ H Q I (i _ _ _ q)⟩
theorem pt_imp {X : Cx} {e : Expr} {t t' : TT} (h : PT X e t) (i : ∀ s H Q, t' s H Q → t s H Q) : PT X e t' := ⟨fun pins s σ H Q I q => h.run pins s σ H Q I (i _ _ _ q)⟩
theorem pw_imp {X : Cx} {e : Expr} {t t' : TT} (h : PW X e t) (i : ∀ s H Q, t' s H Q → t s H Q) : PW X e t' := ⟨fun wh pins s σ H Q I q => h.run wh pins s σ H Q I (i _ _ _ q)⟩
theorem pa_imp {X : Cx} {e : List Expr} {t t' : TA} (h : PA X e t) (i : ∀ s H Q, t' s H Q → t s H Q) : PA X e t' := ⟨fun pos pins s σ H Q I q => h.run pos pins s σ H Q I (i _ _ _ q)⟩
theorem pe_or {X : Cx} {e : Expr} {t t' : TE} (h : PE X e t) (h' : PE X e t') : PE X e (fun s H Q => t s H Q ∨ t' s H Q) := ⟨fun pins s σ H Q I q => q.elim (h.run pins s σ H Q I) (h'.run pins s σ H Q I)⟩
theorem pi_or {X : Cx} {tg e : Expr} {t t' : TI} (h : PI X tg e t) (h' : PI X tg e t') : PI X tg e (fun s H Q => t s H Q ∨ t' s H Q) := ⟨fun pins s σ H Q I q => q.elim (h.run pins s σ H Q I) (h'.run pins s σ H Q I)⟩

section
variable {K : PySem.W.Frag} {cn : CN} {W : WX} {Ex : Addr → Prop} {cl : Bool} {r r' : List Addr} {H H' : Hp} {env : SEnv} {s : L2.St} {st : Sto} {Q : VK} {x : R D} {k : D → Sto → R D}
theorem PostE.grow (p : PostE K cn W Ex x r H s Q) (g : Grow r H r' H') : PostE K cn W Ex x r' H' s Q := by
  cases x with
  | ok d st => exact fun r2 v H2 g2 => p r2 v H2 (g.trans g2)
  | exc c f st => exact fun r2 H2 cls dd g2 => p r2 H2 cls dd (g.trans g2)
  | bad => exact p
theorem PostA.grow {x : R (List D)} {Q : List V → Hp → Prop} (p : PostA K cn W Ex x r H s Q) (g : Grow r H r' H') : PostA K cn W Ex x r' H' s Q := by
  cases x with
  | ok d st => exact fun r2 v H2 g2 => p r2 v H2 (g.trans g2)
  | exc c f st => exact fun r2 H2 cls dd g2 => p r2 H2 cls dd (g.trans g2)
  | bad => exact p
/-- behind a first part -/
theorem PostE.bind (p : PostE K cn W Ex (x.bind k) r H s Q) : PostE K cn W Ex x r H s fun v H1 => ∃ r1 d st1, Grow r H r1 H1 ∧ RelSt K cn r1 st1 H1 ∧ RD K r1 H1 Ex v d ∧ PostE K cn W Ex (k d st1) r1 H1 s Q := by
  cases x with
  | ok d st => exact fun r2 v H2 g2 rs rd => ⟨r2, d, st, g2, rs, rd, PostE.grow (x := k d st) p g2⟩
  | exc c f st => exact p
  | bad => exact p
theorem PostA.bind {k : D → Sto → R (List D)} {Q : List V → Hp → Prop} (p : PostA K cn W Ex (x.bind k) r H s Q) : PostE K cn W Ex x r H s fun v H1 => ∃ r1 d st1, Grow r H r1 H1 ∧ RelSt K cn r1 st1 H1 ∧ RD K r1 H1 Ex v d ∧ PostA K cn W Ex (k d st1) r1 H1 s Q := by
  cases x with
  | ok d st => exact fun r2 v H2 g2 rs rd => ⟨r2, d, st, g2, rs, rd, PostA.grow (x := k d st) p g2⟩
  | exc c f st => exact p
  | bad => exact p
theorem PostE.bindA {x : R (List D)} {k : List D → Sto → R D} (p : PostE K cn W Ex (x.bind k) r H s Q) : PostA K cn W Ex x r H s fun vs H1 => ∃ r1 ds st1, Grow r H r1 H1 ∧ RelSt K cn r1 st1 H1 ∧ RDs K r1 H1 Ex vs ds ∧ PostE K cn W Ex (k ds st1) r1 H1 s Q := by
  cases x with
  | ok d st => exact fun r2 v H2 g2 rs rd => ⟨r2, d, st, g2, rs, rd, PostE.grow (x := k d st) p g2⟩
  | exc c f st => exact p
  | bad => exact p
theorem PostA.bindA {x : R (List D)} {k : List D → Sto → R (List D)} {Q : List V → Hp → Prop} (p : PostA K cn W Ex (x.bind k) r H s Q) : PostA K cn W Ex x r H s fun vs H1 => ∃ r1 ds st1, Grow r H r1 H1 ∧ RelSt K cn r1 st1 H1 ∧ RDs K r1 H1 Ex vs ds ∧ PostA K cn W Ex (k ds st1) r1 H1 s Q := by
  cases x with
  | ok d st => exact fun r2 v H2 g2 rs rd => ⟨r2, d, st, g2, rs, rd, PostA.grow (x := k d st) p g2⟩
  | exc c f st => exact p
  | bad => exact p
theorem PostE.mono {Q' : VK} (p : PostE K cn W Ex x r H s Q) (h : ∀ v H', Q v H' → Q' v H') : PostE K cn W Ex x r H s Q' := by
  cases x with
  | ok d st => exact fun r2 v H2 g rs rd => h _ _ (p r2 v H2 g rs rd)
  | exc c f st => exact p
  | bad => exact p
/-- the value as it stands -/
theorem PostE.here {d : D} {v : V} (p : PostE K cn W Ex (.ok d st) r H s Q) (rs : RelSt K cn r st H) (rd : RD K r H Ex v d) : Q v H := p r v H Grow.refl rs rd
/-- one more part, from the state behind the first -/
theorem tM_at {m : ME} (a : At K cn cl Ex r st H env s) (p : PostE K cn W Ex (m env st) r H s Q) : tM K cn W cl m s H Q := ⟨r, env, st, Ex, a, p⟩
/-- more is excluded -/
theorem PostE.ex {Ex' : Addr → Prop} (p : PostE K cn W Ex x r H s Q) (h : ∀ a, Ex a → Ex' a) : PostE K cn W Ex' x r H s Q := by
  cases x with
  | ok d st => exact fun r2 v H2 g rs rd => p r2 v H2 g rs (rd.kept (kept_ex h))
  | exc c f st => exact p
  | bad => exact p
theorem EnvOk.more {Ex' : Addr → Prop} (eo : EnvOk K cn Ex r H env s) (h : ∀ a, Ex' a → OwnX env s Ex a) : EnvOk K cn Ex' r H env s := by
  have hh : ∀ a, OwnX env s Ex' a → OwnX env s Ex a := fun a z => Or.elim z (fun z => Or.inl z) (h a)
  refine ⟨eo.len, fun i d e => ?_, fun i ds e => ?_, eo.inj⟩
  · obtain ⟨v, h1, h2⟩ := eo.val i d e
    exact ⟨v, h1, h2.kept (kept_ex hh)⟩
  · obtain ⟨a, vs, h1, h2, h3, h4⟩ := eo.own i ds e
    exact ⟨a, vs, h1, h2, h3, h4.kept (kept_ex hh)⟩
theorem EnvOk.ownSome (eo : EnvOk K cn Ex r H env s) {a : Addr} (h : Own env s a) : H a ≠ none := by
  obtain ⟨i, ds, h1, h2⟩ := h
  obtain ⟨c, vs, h3, h4, _⟩ := eo.own i ds h1
  rw [h2] at h3; cases h3
  rw [h4]; exact fun z => by cases z
theorem At.clean (a : At K cn false Ex r st H env s) : At K cn true (OwnX env s Ex) r st H env s where
  rs := a.rs
  eo := a.eo.more fun _ z => z
  xo := fun b h => Or.elim h (fun h => a.eo.ownSome h) (a.xo b)
  ow := fun z => by cases z
  oi := fun _ b h => Or.inl h
theorem tM_cl {m : ME} (h : tM K cn W false m s H Q) : tM K cn W true m s H Q := by
  obtain ⟨r, env, st, Ex, a, p⟩ := h
  exact ⟨r, env, st, _, a.clean, p.ex fun _ z => .inr z⟩
end
/-- a clean expression anywhere -/
theorem se_any {X : Cx} {cn : CN} {W : WX} {e : Expr} {m : ME} (h : SndE X cn W true e m) : SndE X cn W false e m := pe_imp h fun _ _ _ => tM_cl

/-! ## names, constants -/
def eVar (i : Nat) : ME := fun env st => match env[i]? with
  | some (.val d) => .ok d st
  | _ => .bad
/-- an own list, read -/
def eOwn (i : Nat) : ME := fun env st => match env[i]? with
  | some (.own ds) => .ok (.lst ds) st
  | _ => .bad
def eC (d : D) : ME := fun _ st => .ok d st
/-- what is read whatever the state -/
def RDc (K : PySem.W.Frag) (v : V) (d : D) : Prop := ∀ r H Ex, RD K r H Ex v d
section
variable {X : Cx} {cn : CN} {W : WX} {cl : Bool} {pos : Pos}
theorem se_var {i : Nat} {x : Str} (hN : X.N[i]? = some x) (hv : Vis X.env.scope x) (hd : (x == ("__debug__" : Str)) = false := by decide) (hcd : (x == ("__classdict__" : Str)) = false := by decide) : SndE X cn W cl (.Name x pos) (eVar i) := by
  refine pe_imp (pe_var hN hv hd hcd) fun s H Q ⟨r, env, st, Ex, at_, p⟩ => ?_
  unfold eVar at p
  cases e : env[i]? with
  | none => rw [e] at p; exact p.elim
  | some sv =>
    rw [e] at p
    cases sv with
    | un => exact p.elim
    | exn c f => exact p.elim
    | val d =>
      obtain ⟨v, h1, h2⟩ := at_.eo.val i d e
      exact ⟨v, h1, PostE.here p at_.rs (h2.kept (kept_ex fun _ z => .inr z))⟩
    | own ds => exact p.elim
theorem se_own {i : Nat} {x : Str} (hN : X.N[i]? = some x) (hv : Vis X.env.scope x) (hd : (x == ("__debug__" : Str)) = false := by decide) (hcd : (x == ("__classdict__" : Str)) = false := by decide) : SndE X cn W false (.Name x pos) (eOwn i) := by
  refine pe_imp (pe_var hN hv hd hcd) fun s H Q ⟨r, env, st, Ex, at_, p⟩ => ?_
  unfold eOwn at p
  cases e : env[i]? with
  | none => rw [e] at p; exact p.elim
  | some sv =>
    rw [e] at p
    cases sv with
    | un => exact p.elim
    | exn c f => exact p.elim
    | val d => exact p.elim
    | own ds =>
      obtain ⟨a, vs, h1, h2, h3, h4⟩ := at_.eo.own i ds e
      exact ⟨_, h1, PostE.here p at_.rs (.lst h2 h3 (at_.ow rfl a ⟨i, ds, e, h1⟩) (h4.kept (kept_ex fun _ z => .inr z)))⟩
theorem se_c {e : Expr} {v : V} {d : D} (h : PE X e (tC v)) (hv : RDc X.K v d) : SndE X cn W cl e (eC d) := pe_imp h fun s H Q ⟨r, env, st, Ex, at_, p⟩ => PostE.here (st := st) p at_.rs (hv r H Ex)
theorem se_int {i : Int} {j : Nat} : SndE X cn W cl (.Constant (.int i) j pos) (eC (.int i)) := se_c pe_int fun _ _ _ => .int i
theorem se_bl {b : Bool} {j : Nat} : SndE X cn W cl (.Constant (.bool b) j pos) (eC (.bl b)) := se_c pe_bl fun _ _ _ => .bl b
theorem se_non {j : Nat} : SndE X cn W cl (.Constant .none j pos) (eC .non) := se_c pe_non fun _ _ _ => .non
theorem se_str {x : Str} {j : Nat} : SndE X cn W cl (.Constant (.str x) j pos) (eC (.str x)) := se_c pe_str fun _ _ _ => .str x

/-! ## operators -/
def eBin (f : D → D → Sto → R D) (ma mb : ME) : ME := fun env st => (ma env st).bind fun x st1 => (mb env st1).bind fun y st2 => f x y st2
def eUn (f : D → Sto → R D) (ma : ME) : ME := fun env st => (ma env st).bind fun x st1 => f x st1
/-- what a two-place rule asks, from what the function gives -/
def Op2 (K : PySem.W.Frag) (cn : CN) (r : R2) (f : D → D → Sto → R D) : Prop :=
  ∀ (W : WX) (Ex : Addr → Prop) (ro : List Addr) (st : Sto) (H : Hp) (s : L2.St) (x y : V) (dx dy : D) (Q : VK), ExO Ex H → RelSt K cn ro st H → RD K ro H Ex x dx → RD K ro H Ex y dy → PostE K cn W Ex (f dx dy st) ro H s Q → r x y H Q
def Op1 (K : PySem.W.Frag) (cn : CN) (r : V → Hp → VK → Prop) (f : D → Sto → R D) : Prop :=
  ∀ (W : WX) (Ex : Addr → Prop) (ro : List Addr) (st : Sto) (H : Hp) (s : L2.St) (x : V) (dx : D) (Q : VK), ExO Ex H → RelSt K cn ro st H → RD K ro H Ex x dx → PostE K cn W Ex (f dx st) ro H s Q → r x H Q
theorem tM_bin {r : R2} {f : D → D → Sto → R D} {ma mb : ME} (h : Op2 X.K cn r f) : ∀ s H Q, tM X.K cn W cl (eBin f ma mb) s H Q → tOp r (tM X.K cn W cl ma) (tM X.K cn W cl mb) s H Q := fun s H Q ⟨ro, env, st, Ex, at_, p⟩ =>
  tM_at at_ ((PostE.bind p).mono fun x H1 ⟨r1, d1, st1, g1, rs1, rd1, p1⟩ => tM_at (at_.grow g1 rs1) ((PostE.bind p1).mono fun y H2 ⟨r2, d2, st2, g2, rs2, rd2, p2⟩ => h W Ex r2 st2 H2 s x y d1 d2 Q ((at_.grow g1 rs1).grow g2 rs2).xo rs2 (g2.rd rd1) rd2 p2))
theorem tM_un {r : V → Hp → VK → Prop} {f : D → Sto → R D} {ma : ME} (h : Op1 X.K cn r f) : ∀ s H Q, tM X.K cn W cl (eUn f ma) s H Q → tUn r (tM X.K cn W cl ma) s H Q := fun s H Q ⟨ro, env, st, Ex, at_, p⟩ =>
  tM_at at_ ((PostE.bind p).mono fun x H1 ⟨r1, d1, st1, g1, rs1, rd1, p1⟩ => h W Ex r1 st1 H1 s x d1 Q (at_.grow g1 rs1).xo rs1 rd1 p1)
variable {a b c : Expr} {ma mb mc : ME}
theorem se_bin {op : Operator} {r : R2} {f : D → D → Sto → R D} (ho : OpR X (binaryOp op) r) (h : Op2 X.K cn r f) (ha : SndE X cn W cl a ma) (hb : SndE X cn W cl b mb) : SndE X cn W cl (.BinOp a op b pos) (eBin f ma mb) := pe_imp (pe_op ho ha hb) (tM_bin h)
theorem se_un {op : UnaryOp} {r : V → Hp → VK → Prop} {f : D → Sto → R D} (ho : UnR X (unaryOp op) r) (h : Op1 X.K cn r f) (ha : SndE X cn W cl a ma) : SndE X cn W cl (.UnaryOp op a pos) (eUn f ma) := pe_imp (pe_un ho ha) (tM_un h)
theorem se_cmp {op : CmpOp} {r : R2} {f : D → D → Sto → R D} (ho : OpR X (compareOp op) r) (h : Op2 X.K cn r f) (ha : SndE X cn W cl a ma) (hb : SndE X cn W cl b mb) (hm : behindInMarks op b = false) : SndE X cn W cl (.Compare a [op] [b] pos) (eBin f ma mb) := pe_imp (pe_cmpR ho ha hb hm) (tM_bin h)
/-- a test by its value -/
theorem PostT.ofE {x : R D} {Ex : Addr → Prop} {r : List Addr} {H : Hp} {s : L2.St} {Q : Bool → Hp → Prop} {K : PySem.W.Frag} (p : PostT K cn W x r H s Q) : PostE K cn W Ex x r H s fun v H1 => ∃ b, v = .bl b ∧ Q b H1 := by
  cases x with
  | ok d st =>
    cases d with
    | bl b => exact fun r' v H' g rs rd => by cases rd; exact ⟨b, rfl, p r' H' g rs⟩
    | _ => exact p.elim
  | exc c f st => exact p
  | bad => exact p
theorem st_val {m : ME} (h : SndE X cn W cl a m) (he : ∀ whole, isTrue a X.env whole = (do let v ← whole; standAt a.pos; holding [v] (truthy v)) := by intro _; rfl) : SndT X cn W cl a m := pt_imp (pt_val h he) fun s H Q ⟨ro, env, st, Ex, at_, p⟩ => tM_at at_ p.ofE
theorem st_cmp {op : CmpOp} {r : R2} {f : D → D → Sto → R D} (ho : OpR X (compareOp op) r) (h : Op2 X.K cn r f) (ha : SndE X cn W cl a ma) (hb : SndE X cn W cl b mb) (hm : behindInMarks op b = false) : SndT X cn W cl (.Compare a [op] [b] pos) (eBin f ma mb) :=
  pt_imp (pt_cmpR ho ha hb hm) fun s H Q ⟨ro, env, st, Ex, at_, p⟩ => tM_bin (W := W) h s H _ ⟨ro, env, st, Ex, at_, p.ofE⟩
end
end Fx

namespace Fx
open PySem PySem.Spec PyProof.Rows L2

/-! ## and, or, not, if, chains -/
def eAnd (ma mb : ME) : ME := fun env st => (ma env st).bind fun x st1 => match x with
  | .bl b => if b = true then mb env st1 else .ok (.bl false) st1
  | _ => .bad
def eOr (ma mb : ME) : ME := fun env st => (ma env st).bind fun x st1 => match x with
  | .bl b => if b = true then .ok (.bl true) st1 else mb env st1
  | _ => .bad
def eNot (ma : ME) : ME := fun env st => (ma env st).bind fun x st1 => match x with
  | .bl b => .ok (.bl (!b)) st1
  | _ => .bad
def eIf (mc ma mb : ME) : ME := fun env st => (mc env st).bind fun x st1 => match x with
  | .bl b => if b = true then ma env st1 else mb env st1
  | _ => .bad
def eChain (f g : D → D → Sto → R D) (ma mb mc : ME) : ME := fun env st => (ma env st).bind fun x st1 => (mb env st1).bind fun y st2 => (f x y st2).bind fun z st3 => match z with
  | .bl b => if b = true then (mc env st3).bind fun w st4 => g y w st4 else .ok (.bl false) st3
  | _ => .bad
section
variable {K : PySem.W.Frag} {cn : CN} {W : WX} {Ex : Addr → Prop} {cl : Bool} {r r' : List Addr} {H H' : Hp} {env : SEnv} {s : L2.St} {st : Sto} {x : R D}
theorem PostT.grow {Q : Bool → Hp → Prop} (p : PostT K cn W x r H s Q) (g : Grow r H r' H') : PostT K cn W x r' H' s Q := by
  cases x with
  | ok d st =>
    cases d with
    | bl b => exact fun r2 H2 g2 => p r2 H2 (g.trans g2)
    | _ => exact p.elim
  | exc c f st => exact fun r2 H2 cls dd g2 => p r2 H2 cls dd (g.trans g2)
  | bad => exact p
theorem PostT.mono {Q Q' : Bool → Hp → Prop} (p : PostT K cn W x r H s Q) (h : ∀ b H', Q b H' → Q' b H') : PostT K cn W x r H s Q' := by
  cases x with
  | ok d st =>
    cases d with
    | bl b => exact fun r2 H2 g2 rs => h _ _ (p r2 H2 g2 rs)
    | _ => exact p.elim
  | exc c f st => exact p
  | bad => exact p
/-- a test, then a value | a test -/
theorem PostE.test {k : Bool → Sto → R D} {Q : VK} (p : PostE K cn W Ex (x.bind fun d st1 => match d with
    | .bl b => k b st1
    | _ => .bad) r H s Q) : PostT K cn W x r H s fun b H1 => ∃ r1 st1, Grow r H r1 H1 ∧ RelSt K cn r1 st1 H1 ∧ PostE K cn W Ex (k b st1) r1 H1 s Q := by
  cases x with
  | ok d st =>
    cases d with
    | bl b => exact fun r2 H2 g2 rs => ⟨r2, st, g2, rs, PostE.grow (x := k b st) p g2⟩
    | _ => exact False.elim p
  | exc c f st => exact p
  | bad => exact p
theorem PostT.test {k : Bool → Sto → R D} {Q : Bool → Hp → Prop} (p : PostT K cn W (x.bind fun d st1 => match d with
    | .bl b => k b st1
    | _ => .bad) r H s Q) : PostT K cn W x r H s fun b H1 => ∃ r1 st1, Grow r H r1 H1 ∧ RelSt K cn r1 st1 H1 ∧ PostT K cn W (k b st1) r1 H1 s Q := by
  cases x with
  | ok d st =>
    cases d with
    | bl b => exact fun r2 H2 g2 rs => ⟨r2, st, g2, rs, PostT.grow (x := k b st) p g2⟩
    | _ => exact False.elim p
  | exc c f st => exact p
  | bad => exact p
theorem PostT.toE {Q : Bool → Hp → Prop} (p : PostT K cn W x r H s Q) : PostE K cn W Ex x r H s fun v H1 => ∃ b, v = .bl b ∧ Q b H1 := p.ofE
end
section
variable {X : Cx} {cn : CN} {W : WX} {cl : Bool} {pos : Pos} {a b c : Expr} {rest : List Expr} {ma mb mc : ME}
abbrev SndW (X : Cx) (cn : CN) (W : WX) (cl : Bool) (e : Expr) (m : ME) : Prop := PW X e (tMT X.K cn W cl m)
theorem sw_pt (h : SndW X cn W cl a ma) : SndT X cn W cl a ma := PW.pt h
theorem sw_and1 (ha : SndT X cn W cl a ma) : SndW X cn W cl (.BoolOp .And [a] pos) ma := pw_and1 ha
theorem sw_or1 (ha : SndT X cn W cl a ma) : SndW X cn W cl (.BoolOp .Or [a] pos) ma := pw_or1 ha
theorem sw_and (ha : SndT X cn W cl a ma) (hb : SndW X cn W cl (.BoolOp .And (b :: rest) pos) mb) : SndW X cn W cl (.BoolOp .And (a :: b :: rest) pos) (eAnd ma mb) := pw_imp (pw_and ha hb) fun s H Q ⟨r, env, st, Ex, at_, p⟩ =>
  ⟨r, env, st, Ex, at_, p.test.mono fun k H1 ⟨r1, st1, g1, rs1, p1⟩ => by
    cases k with
    | true => exact ⟨r1, env, st1, Ex, at_.grow g1 rs1, p1⟩
    | false => exact p1 r1 H1 Grow.refl rs1⟩
theorem sw_or (ha : SndT X cn W cl a ma) (hb : SndW X cn W cl (.BoolOp .Or (b :: rest) pos) mb) : SndW X cn W cl (.BoolOp .Or (a :: b :: rest) pos) (eOr ma mb) := pw_imp (pw_or ha hb) fun s H Q ⟨r, env, st, Ex, at_, p⟩ =>
  ⟨r, env, st, Ex, at_, p.test.mono fun k H1 ⟨r1, st1, g1, rs1, p1⟩ => by
    cases k with
    | true => exact p1 r1 H1 Grow.refl rs1
    | false => exact ⟨r1, env, st1, Ex, at_.grow g1 rs1, p1⟩⟩
theorem st_not (ha : SndT X cn W cl a ma) : SndT X cn W cl (.UnaryOp .Not a pos) (eNot ma) := pt_imp (pt_not ha) fun s H Q ⟨r, env, st, Ex, at_, p⟩ =>
  ⟨r, env, st, Ex, at_, p.test.mono fun k H1 ⟨r1, st1, g1, rs1, p1⟩ => p1 r1 H1 Grow.refl rs1⟩
theorem se_one {op} (ha : SndE X cn W cl a ma) : SndE X cn W cl (.BoolOp op [a] pos) ma := pe_one ha
/-- a value that must be a truth -/
theorem PostE.isB {K : PySem.W.Frag} {x : R D} {Ex : Addr → Prop} {r : List Addr} {H : Hp} {s : L2.St} {k : Bool → Sto → R D} {Q : VK} (p : PostE K cn W Ex (x.bind fun d st1 => match d with
    | .bl b => k b st1
    | _ => .bad) r H s Q) : PostE K cn W Ex x r H s fun v H1 => ∃ b, v = .bl b ∧ ∃ r1 st1, Grow r H r1 H1 ∧ RelSt K cn r1 st1 H1 ∧ PostE K cn W Ex (k b st1) r1 H1 s Q := p.test.ofE
theorem se_and (ha : SndE X cn W cl a ma) (hb : SndE X cn W cl (.BoolOp .And (b :: rest) pos) mb) : SndE X cn W cl (.BoolOp .And (a :: b :: rest) pos) (eAnd ma mb) := pe_imp (pe_and ha hb) fun s H Q ⟨r, env, st, Ex, at_, p⟩ =>
  ⟨r, env, st, Ex, at_, p.isB.mono fun v H1 ⟨k, e, r1, st1, g1, rs1, p1⟩ => ⟨k, e, by
    cases k with
    | true => exact ⟨r1, env, st1, Ex, at_.grow g1 rs1, p1⟩
    | false => exact PostE.here p1 rs1 (.bl _)⟩⟩
theorem se_or (ha : SndE X cn W cl a ma) (hb : SndE X cn W cl (.BoolOp .Or (b :: rest) pos) mb) : SndE X cn W cl (.BoolOp .Or (a :: b :: rest) pos) (eOr ma mb) := pe_imp (pe_or_ ha hb) fun s H Q ⟨r, env, st, Ex, at_, p⟩ =>
  ⟨r, env, st, Ex, at_, p.isB.mono fun v H1 ⟨k, e, r1, st1, g1, rs1, p1⟩ => ⟨k, e, by
    cases k with
    | true => exact PostE.here p1 rs1 (.bl _)
    | false => exact ⟨r1, env, st1, Ex, at_.grow g1 rs1, p1⟩⟩⟩
where pe_or_ {X : Cx} {a b : Expr} {rest : List Expr} {pos : Pos} {ta tb : TE} (ha : PE X a ta) (hb : PE X (.BoolOp .Or (b :: rest) pos) tb) : PE X (.BoolOp .Or (a :: b :: rest) pos) (tOrV ta tb) := L2.pe_or ha hb
theorem se_not (ha : SndE X cn W cl a ma) : SndE X cn W cl (.UnaryOp .Not a pos) (eNot ma) := pe_imp (pe_not ha) fun s H Q ⟨r, env, st, Ex, at_, p⟩ =>
  ⟨r, env, st, Ex, at_, p.isB.mono fun v H1 ⟨k, e, r1, st1, g1, rs1, p1⟩ => ⟨k, e, PostE.here p1 rs1 (.bl _)⟩⟩
theorem se_if (hc : SndT X cn W cl c mc) (ha : SndE X cn W cl a ma) (hb : SndE X cn W cl b mb) : SndE X cn W cl (.IfExp c a b pos) (eIf mc ma mb) := pe_imp (pe_ifExp hc ha hb) fun s H Q ⟨r, env, st, Ex, at_, p⟩ =>
  ⟨r, env, st, Ex, at_, p.test.mono fun k H1 ⟨r1, st1, g1, rs1, p1⟩ => by
    cases k with
    | true => exact ⟨r1, env, st1, Ex, at_.grow g1 rs1, p1⟩
    | false => exact ⟨r1, env, st1, Ex, at_.grow g1 rs1, p1⟩⟩
theorem tM_chain {t t' : R2} {f g : D → D → Sto → R D} (hf : Op2 X.K cn t f) (hg : Op2 X.K cn t' g) : ∀ s H Q, tM X.K cn W cl (eChain f g ma mb mc) s H Q → tChain t t' (tM X.K cn W cl ma) (tM X.K cn W cl mb) (tM X.K cn W cl mc) s H Q := fun s H Q ⟨r, env, st, Ex, at_, p⟩ =>
  tM_at at_ ((PostE.bind p).mono fun x H1 ⟨r1, d1, st1, g1, rs1, rd1, p1⟩ => tM_at (at_.grow g1 rs1) ((PostE.bind p1).mono fun y H2 ⟨r2, d2, st2, g2, rs2, rd2, p2⟩ =>
    hf W Ex r2 st2 H2 s x y d1 d2 _ ((at_.grow g1 rs1).grow g2 rs2).xo rs2 (g2.rd rd1) rd2 (p2.isB.mono fun z H3 ⟨k, e, r3, st3, g3, rs3, p3⟩ => ⟨k, e, by
      cases k with
      | true => exact tM_at (((at_.grow g1 rs1).grow g2 rs2).grow g3 rs3) ((PostE.bind p3).mono fun w H4 ⟨r4, d4, st4, g4, rs4, rd4, p4⟩ => hg W Ex r4 st4 H4 s y w d2 d4 Q ((((at_.grow g1 rs1).grow g2 rs2).grow g3 rs3).grow g4 rs4).xo rs4 ((g3.trans g4).rd rd2) rd4 p4)
      | false => exact PostE.here p3 rs3 (.bl _)⟩)))
theorem se_chain {op op' : CmpOp} {t t' : R2} {f g : D → D → Sto → R D} (ho : OpR X (compareOp op) t) (ho' : OpR X (compareOp op') t') (hf : Op2 X.K cn t f) (hg : Op2 X.K cn t' g) (ha : SndE X cn W cl a ma) (hb : SndE X cn W cl b mb) (hc : SndE X cn W cl c mc) (hm : lastMarks [op, op'] [b, c] = false := by rfl) :
    SndE X cn W cl (.Compare a [op, op'] [b, c] pos) (eChain f g ma mb mc) := pe_imp (pe_chain ho ho' ha hb hc hm) (tM_chain hf hg)
theorem st_chain {op op' : CmpOp} {t t' : R2} {f g : D → D → Sto → R D} (ho : OpR X (compareOp op) t) (ho' : OpR X (compareOp op') t') (hf : Op2 X.K cn t f) (hg : Op2 X.K cn t' g) (ha : SndE X cn W cl a ma) (hb : SndE X cn W cl b mb) (hc : SndE X cn W cl c mc) (hm : lastMarks [op, op'] [b, c] = false := by rfl) :
    SndT X cn W cl (.Compare a [op, op'] [b, c] pos) (eChain f g ma mb mc) := pt_imp (pt_chain ho ho' ha hb hc hm) fun s H Q ⟨r, env, st, Ex, at_, p⟩ => tM_chain hf hg s H _ ⟨r, env, st, Ex, at_, p.ofE⟩
end

/-! ## argument lists, displays, calls -/
def aNil : SEnv → Sto → R (List D) := fun _ st => .ok [] st
def aCons (ma : ME) (mr : SEnv → Sto → R (List D)) : SEnv → Sto → R (List D) := fun env st => (ma env st).bind fun x st1 => (mr env st1).bind fun xs st2 => .ok (x :: xs) st2
abbrev MA := SEnv → Sto → R (List D)
def sz (n : Nat) : Bool := n ≤ 100000
theorem sz_ok {n : Nat} (h : sz n = true) : n ≤ sizeLine := Nat.le_trans (of_decide_eq_true h) (by decide)
def eTup (ma : MA) : ME := fun env st => (ma env st).bind fun xs st1 => if sz xs.length = true then .ok (.tup xs) st1 else .bad
def eLst (ma : MA) : ME := fun env st => (ma env st).bind fun xs st1 => if sz xs.length = true then .ok (.lst xs) st1 else .bad
/-- a list of the store -/
def eLstO (ma : MA) : ME := fun env st => (ma env st).bind fun xs st1 => if (sz xs.length && noLsts xs) = true then .ok (.obj st1.length) (st1 ++ [.lst xs]) else .bad
section
variable {X : Cx} {cn : CN} {W : WX} {cl : Bool} {pos : Pos} {a : Expr} {es : List Expr} {ma : ME} {mr : MA}
theorem sa_nil : SndA X cn W cl [] aNil := pa_imp pa_nil fun s H Q ⟨r, env, st, Ex, at_, p⟩ => p r [] H Grow.refl at_.rs .nil
theorem sa_cons (ha : SndE X cn W cl a ma) (hr : SndA X cn W cl es mr) (hs : starEach (a :: es) X.env = (false, eval a X.env) :: starEach es X.env := by rfl) : SndA X cn W cl (a :: es) (aCons ma mr) := pa_imp (pa_cons ha hr hs) fun s H Q ⟨r, env, st, Ex, at_, p⟩ =>
  tM_at at_ ((PostA.bind p).mono fun x H1 ⟨r1, d1, st1, g1, rs1, rd1, p1⟩ => ⟨r1, env, st1, Ex, at_.grow g1 rs1, by
    have p2 := PostA.bindA p1
    cases e : mr env st1 with
    | ok ds st2 =>
      rw [e] at p2
      exact fun r2 vs H2 g2 rs2 rd2 => by
        obtain ⟨r3, ds3, st3, g3, rs3, rd3, p3⟩ := p2 r2 vs H2 g2 rs2 rd2
        exact p3 r3 (x :: vs) H2 Grow.refl rs3 (.cons (g3.rd rd1) rd3)
    | exc c f st2 => rw [e] at p2; exact p2
    | bad => rw [e] at p2; exact p2⟩)
theorem PostA.mono {K : PySem.W.Frag} {x : R (List D)} {Ex : Addr → Prop} {r : List Addr} {H : Hp} {s : L2.St} {Q Q' : List V → Hp → Prop} (p : PostA K cn W Ex x r H s Q) (h : ∀ v H', Q v H' → Q' v H') : PostA K cn W Ex x r H s Q' := by
  cases x with
  | ok d st => exact fun r2 v H2 g rs rd => h _ _ (p r2 v H2 g rs rd)
  | exc c f st => exact p
  | bad => exact p
theorem tMA_at {K : PySem.W.Frag} {m : MA} {Ex : Addr → Prop} {r : List Addr} {st : Sto} {H : Hp} {env : SEnv} {s : L2.St} {Q : List V → Hp → Prop} (a : At K cn cl Ex r st H env s) (p : PostA K cn W Ex (m env st) r H s Q) : tMA K cn W cl m s H Q := ⟨r, env, st, Ex, a, p⟩
theorem se_tup {x1} (h : SndA X cn W cl es mr) : SndE X cn W cl (.Tuple es x1 pos) (eTup mr) := pe_imp (pe_tup h) fun s H Q ⟨r, env, st, Ex, at_, p⟩ =>
  tMA_at at_ ((PostE.bindA p).mono fun vs H1 ⟨r1, ds, st1, g1, rs1, rd1, p1⟩ => by
    by_cases hz : sz ds.length = true
    · rw [if_pos hz] at p1
      refine ⟨by rw [rd1.length]; exact sz_ok hz, fun a ha => ?_⟩
      exact p1 r1 _ _ (Grow.lay ha) (rs1.lay ha) (.tup upd_same (rs1.out ha) ((Grow.lay ha).rds rd1))
    · rw [if_neg hz] at p1; exact p1.elim)
theorem se_lst (h : SndA X cn W cl es mr) : SndE X cn W cl (.List es pos) (eLst mr) := pe_imp (pe_lst h) fun s H Q ⟨r, env, st, Ex, at_, p⟩ =>
  tMA_at at_ ((PostE.bindA p).mono fun vs H1 ⟨r1, ds, st1, g1, rs1, rd1, p1⟩ => by
    by_cases hz : sz ds.length = true
    · rw [if_pos hz] at p1
      refine ⟨by rw [rd1.length]; exact sz_ok hz, fun a ha => ?_⟩
      exact p1 r1 _ _ (Grow.lay ha) (rs1.lay ha) (.lst upd_same (rs1.out ha) (fun z => (at_.grow g1 rs1).xo _ z ha) ((Grow.lay ha).rds rd1))
    · rw [if_neg hz] at p1; exact p1.elim)
theorem se_lstO (h : SndA X cn W cl es mr) : SndE X cn W cl (.List es pos) (eLstO mr) := pe_imp (pe_lst h) fun s H Q ⟨r, env, st, Ex, at_, p⟩ =>
  tMA_at at_ ((PostE.bindA p).mono fun vs H1 ⟨r1, ds, st1, g1, rs1, rd1, p1⟩ => by
    by_cases hz : (sz ds.length && noLsts ds) = true
    · rw [if_pos hz] at p1
      obtain ⟨hz1, hz2⟩ := Bool.and_eq_true_iff.mp hz
      refine ⟨by rw [rd1.length]; exact sz_ok hz1, fun a ha => ?_⟩
      refine p1 (r1 ++ [a]) _ _ (Grow.push ha) (rs1.push ha fun H' k e => ⟨vs, e, (rd1.free (Ex' := All) hz2).kept k⟩) (.obj ?_)
      rw [← rs1.len, List.getElem?_append_right (Nat.le_refl _), Nat.sub_self]; rfl
    · rw [if_neg hz] at p1; exact p1.elim)
end

/-! ## what a def promises -/
abbrev FS := List D → Sto → R D
def spOf (K : PySem.W.Frag) (cn : CN) (sem : FS) : Sp := fun vs H Q E => ∃ r ds st Ex, RelSt K cn r st H ∧ ExO Ex H ∧ RDs K r H Ex vs ds ∧ PostE K cn (fun cls dd _ H' => E cls dd H') Ex (sem ds st) r H [] Q
/-- the def at f, by its sem -/
structure FnT (P : Program) (w : World) (K : PySem.W.Frag) (mg : Str → Option Value) (base : Heap) (cn : CN) (f : Addr) (k : Nat) (sem : FS) : Prop where
  kp : PySem.W.keepIn K (.ref f) = true
  run : FnR P w K mg base (L2.CX P w) k f (spOf K cn sem)
/-- the def x of the module -/
structure FnS (P : Program) (w : World) (K : PySem.W.Frag) (mg : Str → Option Value) (base : Heap) (cn : CN) (x : Str) (k : Nat) (sem : FS) : Prop where
  ex : ∃ f : Addr, mg x = some (.ref f) ∧ FnT P w K mg base cn f k sem
/-- the outcome is the same, or nothing is said -/
def Le (a b : R D) : Prop := a = .bad ∨ a = b
theorem Le.rfl' {a : R D} : Le a a := .inr rfl
theorem spOf_imp {K : PySem.W.Frag} {cn : CN} {sem sem' : FS} (h : ∀ ds st, Le (sem' ds st) (sem ds st)) : ∀ vs H Q E, spOf K cn sem' vs H Q E → spOf K cn sem vs H Q E := fun vs H Q E ⟨r, ds, st, Ex, rs, xo, rd, p⟩ => ⟨r, ds, st, Ex, rs, xo, rd, by
  rcases h ds st with e | e
  · rw [e] at p; exact p.elim
  · rw [← e]; exact p⟩
section
variable {P : Program} {w : World} {K : PySem.W.Frag} {mg : Str → Option Value} {base : Heap} {cn : CN} {x : Str} {f : Addr} {j k : Nat} {sem sem' : FS}
theorem FnT.imp (F : FnT P w K mg base cn f k sem) (h : ∀ ds st, Le (sem' ds st) (sem ds st)) : FnT P w K mg base cn f k sem' := ⟨F.kp, F.run.imp (spOf_imp h)⟩
theorem FnT.mono (F : FnT P w K mg base cn f j sem) (h : j ≤ k) : FnT P w K mg base cn f k sem := ⟨F.kp, F.run.mono h⟩
theorem FnS.imp (F : FnS P w K mg base cn x k sem) (h : ∀ ds st, Le (sem' ds st) (sem ds st)) : FnS P w K mg base cn x k sem' := let ⟨f, h1, h2⟩ := F.ex; ⟨f, h1, h2.imp h⟩
theorem FnS.mono (F : FnS P w K mg base cn x j sem) (h : j ≤ k) : FnS P w K mg base cn x k sem := let ⟨f, h1, h2⟩ := F.ex; ⟨f, h1, h2.mono h⟩
end
def eCall (sem : FS) (ma : MA) : ME := fun env st => (ma env st).bind fun xs st1 => sem xs st1
theorem PostE.slots {K : PySem.W.Frag} {cn : CN} {W W' : WX} {Ex : Addr → Prop} {y : R D} {r : List Addr} {H : Hp} {s s' : L2.St} {Q : VK} (p : PostE K cn W Ex y r H s Q) (h : ∀ cls dd H', W cls dd s H' → W' cls dd s' H') : PostE K cn W' Ex y r H s' Q := by
  cases y with
  | ok d st => exact p
  | exc c f st => exact fun r' H' cls dd g rs ex => h _ _ _ (p r' H' cls dd g rs ex)
  | bad => exact p
section
variable {X : Cx} {cn : CN} {W : WX} {cl : Bool} {pos p : Pos} {e : Expr} {es : List Expr} {ma : MA} {x : Str} {f : Addr} {k : Nat} {sem : FS}
theorem run_fnA {pins : List (Addr × Obj)} {σ : L2.St} {H : Hp} {s : Shared} {CX : CXT} {sp : Sp} {E : XK} {Q : VK} {us : List Value} {vs : List V} (F : FnR X.prog X.w X.K X.mg X.base CX k f sp) (hr : Room k X.A) (hx : PassesAt CX X σ E) (I : Inv X pins σ H s) (r : Vals vs us) (h : sp vs H Q E) :
    wpAny (model X.prog X.w) X.A (call (.ref f) us) (EP X pins σ Q) X.xe s := by
  refine wpAny_call (codeAny_mono (F X.A X.stack s H us vs Q E hr I.env0 r h) fun r s' hq => ?_)
  cases r with
  | error e => exact hx pins H s e s' I hq
  | ok fl =>
    cases fl with
    | ret u => exact I.after hq
    | next => exact False.elim hq
    | brk => exact False.elim hq
    | cont => exact False.elim hq
/-- from the outcome of the arguments to the callee's promise -/
theorem call_at {s : L2.St} {H : Hp} {Q : VK} (h : tM X.K cn W cl (eCall sem ma) s H Q) : tMA X.K cn W cl ma s H fun vs H1 => spOf X.K cn sem vs H1 Q (WE W s) := by
  obtain ⟨r, env, st, Ex, at_, p⟩ := h
  refine tMA_at at_ ((PostE.bindA p).mono fun vs H2 ⟨r3, ds3, st3, g3, rs3, rd3, p3⟩ => ?_)
  exact ⟨r3, ds3, st3, Ex, rs3, (at_.grow g3 rs3).xo, rd3, p3.slots fun cls dd H' z => z⟩
theorem se_call (F : FnS X.prog X.w X.K X.mg X.base cn x k sem) (tk : Takes X W) (hr : Room k X.A) (hg : Gl X x) (ha : SndA X cn W cl (e :: es) ma)
    (hdb : (x == ("__debug__" : Str)) = false := by decide) (he : starEach (e :: es) X.env = (false, eval e X.env) :: starEach es X.env := by rfl) (hpl : (backTo pos (starEach es X.env)).any (·.1) = false := by rfl) :
    SndE X cn W cl (.Call (.Name x p) (e :: es) [] pos) (eCall sem ma) := by
  obtain ⟨f, h1, h2⟩ := F.ex
  refine ⟨fun pins s σ H Q I h => ?_⟩
  refine wpAny_Call_Name_kw (ld_glob I hg h1 ?_ hdb)
  refine PySem.W.callWith_K (h₀ := X.base) I.ok.mod.kin h2.kp (thn (ha.run pos pins s σ H _ I (call_at h)) fun us s1 ⟨vs, H1, I1, r, q⟩ => ⟨I1.kIn, ?_⟩) he hpl
  exact run_fnA h2.run hr (passAt tk σ) I1 r q
theorem se_call0 (F : FnS X.prog X.w X.K X.mg X.base cn x k sem) (tk : Takes X W) (hr : Room k X.A) (hg : Gl X x) (hdb : (x == ("__debug__" : Str)) = false := by decide) : SndE X cn W cl (.Call (.Name x p) [] [] pos) (eCall sem aNil) := by
  obtain ⟨f, h1, h2⟩ := F.ex
  refine ⟨fun pins s σ H Q I h => ?_⟩
  refine wpAny_Call_Name_kw (ld_glob I hg h1 ?_ hdb)
  obtain ⟨r, env, st, Ex, at_, p⟩ := h
  refine PySem.W.callWith_K0 I.kIn h2.kp (run_fnA (us := []) (vs := []) (E := WE W σ) h2.run hr (passAt tk σ) I .nil ⟨r, [], st, Ex, at_.rs, at_.xo, .nil, ?_⟩)
  exact PostE.slots (y := sem [] st) (s := σ) p fun cls dd H' z => z
end
end Fx

namespace Fx
open PySem PySem.Spec PyProof.Rows L2

/-! ## statements: r0, H0 the entry of the def -/
structure StOk (K : PySem.W.Frag) (cn : CN) (Ex : Addr → Prop) (r0 : List Addr) (H0 : Hp) (r : List Addr) (env : SEnv) (st : Sto) (s : L2.St) (H : Hp) : Prop where
  gr : Grow r0 H0 r H
  rs : RelSt K cn r st H
  eo : EnvOk K cn Ex r H env s
  fr : ∀ a, Own env s a → H0 a = none
  xo : ExO Ex H0
def PostS (K : PySem.W.Frag) (cn : CN) (W : WX) (Ex : Addr → Prop) (r0 : List Addr) (H0 : Hp) (x : RS) (Dn : Ends) : Prop := match x with
  | .nx env st => ∀ r s H, StOk K cn Ex r0 H0 r env st s H → Dn.nx s H
  | .rt d st => ∀ r v H, Grow r0 H0 r H → RelSt K cn r st H → RD K r H Ex v d → Dn.rt v H
  | .bk env st => ∀ r s H, StOk K cn Ex r0 H0 r env st s H → Dn.bk s H
  | .ct env st => ∀ r s H, StOk K cn Ex r0 H0 r env st s H → Dn.ct s H
  | .exc c f env st => ∀ r s H cls dd, StOk K cn Ex r0 H0 r env st s H → ExR K cn r H c f cls dd → W cls dd s H
  | .bad => False
def tS (K : PySem.W.Frag) (cn : CN) (W : WX) (m : MS) : TS := fun Dn s H => ∃ r0 H0 r env st Ex, StOk K cn Ex r0 H0 r env st s H ∧ PostS K cn W Ex r0 H0 (m env st) Dn
abbrev SndS (X : Cx) (cn : CN) (W : WX) (e : Stmt) (m : MS) : Prop := PS X e (tS X.K cn W m)
abbrev SndSs (X : Cx) (cn : CN) (W : WX) (e : List Stmt) (m : MS) : Prop := PSs X e (tS X.K cn W m)
theorem ps_imp {X : Cx} {e : Stmt} {t t' : TS} (h : PS X e t) (i : ∀ Dn s H, t' Dn s H → t Dn s H) : PS X e t' := ⟨fun pins s σ H Q I q => h.run pins s σ H Q I (i _ _ _ q)⟩
theorem pss_imp {X : Cx} {e : List Stmt} {t t' : TS} (h : PSs X e t) (i : ∀ Dn s H, t' Dn s H → t Dn s H) : PSs X e t' := ⟨fun pins s σ H Q I q => h.run pins s σ H Q I (i _ _ _ q)⟩

/-- an expression's outcome in a statement -/
def R.stm (x : R D) (env : SEnv) (k : D → Sto → RS) : RS := match x with
  | .ok d st => k d st
  | .exc c f st => .exc c f env st
  | .bad => .bad
def R.stmA (x : R (List D)) (env : SEnv) (k : List D → Sto → RS) : RS := match x with
  | .ok d st => k d st
  | .exc c f st => .exc c f env st
  | .bad => .bad
section
variable {K : PySem.W.Frag} {cn : CN} {W : WX} {Ex : Addr → Prop} {cl : Bool} {r0 r r' : List Addr} {H0 H H' : Hp} {env : SEnv} {s : L2.St} {st st' : Sto} {Dn : Ends}
theorem StOk.grow (o : StOk K cn Ex r0 H0 r env st s H) (g : Grow r H r' H') (rs : RelSt K cn r' st' H') : StOk K cn Ex r0 H0 r' env st' s H' := ⟨o.gr.trans g, rs, o.eo.grow g, o.fr, o.xo⟩
/-- what an expression may not have: the own lists, if it is clean -/
def exOf (cl : Bool) (env : SEnv) (s : L2.St) (Ex : Addr → Prop) : Addr → Prop := fun a => (cl = true ∧ Own env s a) ∨ Ex a
theorem StOk.at_ (o : StOk K cn Ex r0 H0 r env st s H) : At K cn cl (exOf cl env s Ex) r st H env s where
  rs := o.rs
  eo := o.eo.more fun a z => Or.elim z (fun z => Or.inl z.2) Or.inr
  xo := fun a h => Or.elim h (fun h => o.eo.ownSome h.2) (o.xo.grow o.gr o.rs a)
  ow := fun e a h z => Or.elim z (fun z => by rw [e] at z; cases z.1) (fun z => o.xo a z (o.fr a h))
  oi := fun e a h => Or.inl ⟨e, h⟩
theorem PostS.ofE {x : R D} {k : D → Sto → RS} (o : StOk K cn Ex r0 H0 r env st s H) (p : PostS K cn W Ex r0 H0 (x.stm env k) Dn) : PostE K cn W (exOf cl env s Ex) x r H s fun v H1 => ∃ r1 d st1, Grow r H r1 H1 ∧ StOk K cn Ex r0 H0 r1 env st1 s H1 ∧ RD K r1 H1 (exOf cl env s Ex) v d ∧ PostS K cn W Ex r0 H0 (k d st1) Dn := by
  cases x with
  | ok d st => exact fun r2 v H2 g rs rd => ⟨r2, d, st, g, o.grow g rs, rd, p⟩
  | exc c f st => exact fun r2 H2 cls dd g rs ex => p r2 s H2 cls dd (o.grow g rs) ex
  | bad => exact p
theorem PostS.ofT {x : R D} {k : Bool → Sto → RS} (o : StOk K cn Ex r0 H0 r env st s H) (p : PostS K cn W Ex r0 H0 (x.stm env fun d st1 => match d with
    | .bl b => k b st1
    | _ => .bad) Dn) : PostT K cn W x r H s fun b H1 => ∃ r1 st1, Grow r H r1 H1 ∧ StOk K cn Ex r0 H0 r1 env st1 s H1 ∧ PostS K cn W Ex r0 H0 (k b st1) Dn := by
  cases x with
  | ok d st =>
    cases d with
    | bl b => exact fun r2 H2 g rs => ⟨r2, st, g, o.grow g rs, p⟩
    | _ => exact False.elim p
  | exc c f st => exact fun r2 H2 cls dd g rs ex => p r2 s H2 cls dd (o.grow g rs) ex
  | bad => exact p
end
def mNext : MS := fun env st => .nx env st
def mSeq (m1 m2 : MS) : MS := fun env st => match m1 env st with
  | .nx env1 st1 => m2 env1 st1
  | x => x
def mRet (m : ME) : MS := fun env st => (m env st).stm env fun d st1 => .rt d st1
def mRetN : MS := fun env st => .rt .non st
def mBreak : MS := fun env st => .bk env st
def mCont : MS := fun env st => .ct env st
def mIf (mc : ME) (m1 m2 : MS) : MS := fun env st => (mc env st).stm env fun d st1 => match d with
  | .bl b => if b = true then m1 env st1 else m2 env st1
  | _ => .bad
def mDrop (m : ME) : MS := fun env st => (m env st).stm env fun _ st1 => .nx env st1
/-- name = value -/
def mSet (i : Nat) (m : ME) : MS := fun env st => (m env st).stm env fun d st1 => .nx (env.set i (.val d)) st1
section
variable {X : Cx} {cn : CN} {W : WX} {cl : Bool} {pos : Pos} {e : Expr} {se : Stmt} {ss ss2 : List Stmt} {m : ME} {m1 m2 : MS}
theorem sss_nil : SndSs X cn W [] mNext := pss_imp pss_nil fun Dn s H ⟨r0, H0, r, env, st, Ex, o, p⟩ => p r s H o
theorem sss_cons (h1 : SndS X cn W se m1) (h2 : SndSs X cn W ss m2) : SndSs X cn W (se :: ss) (mSeq m1 m2) := pss_imp (pss_cons h1 h2) fun Dn s H ⟨r0, H0, r, env, st, Ex, o, p⟩ => ⟨r0, H0, r, env, st, Ex, o, by
  unfold mSeq at p
  cases e : m1 env st with
  | nx env1 st1 =>
    rw [e] at p
    exact fun r1 s1 H1 o1 => ⟨r0, H0, r1, env1, st1, Ex, o1, p⟩
  | rt d st1 => rw [e] at p; exact p
  | bk env1 st1 => rw [e] at p; exact p
  | ct env1 st1 => rw [e] at p; exact p
  | exc c f env1 st1 => rw [e] at p; exact p
  | bad => rw [e] at p; exact p⟩
theorem sss_one (h1 : SndS X cn W se m1) : SndSs X cn W [se] m1 := pss_imp (pss_cons h1 pss_nil) fun Dn s H ⟨r0, H0, r, env, st, Ex, o, p⟩ => ⟨r0, H0, r, env, st, Ex, o, by
  cases e : m1 env st with
  | nx env1 st1 => rw [e] at p; exact fun r1 s1 H1 o1 => p r1 s1 H1 o1
  | rt d st1 => rw [e] at p; exact p
  | bk env1 st1 => rw [e] at p; exact p
  | ct env1 st1 => rw [e] at p; exact p
  | exc c f env1 st1 => rw [e] at p; exact p
  | bad => rw [e] at p; exact p⟩
theorem ss_pass : SndS X cn W (.Pass pos) mNext := ps_imp ps_pass fun Dn s H ⟨r0, H0, r, env, st, Ex, o, p⟩ => p r s H o
theorem ss_break : SndS X cn W (.Break pos) mBreak := ps_imp ps_break fun Dn s H ⟨r0, H0, r, env, st, Ex, o, p⟩ => p r s H o
theorem ss_cont : SndS X cn W (.Continue pos) mCont := ps_imp ps_continue fun Dn s H ⟨r0, H0, r, env, st, Ex, o, p⟩ => p r s H o
theorem ss_ret (h : SndE X cn W cl e m) : SndS X cn W (.Return (some e) pos) (mRet m) := ps_imp (ps_ret h) fun Dn s H ⟨r0, H0, r, env, st, Ex, o, p⟩ =>
  tM_at o.at_ ((PostS.ofE o p).mono fun v H1 ⟨r1, d, st1, g, o1, rd, p1⟩ => p1 r1 v H1 o1.gr o1.rs (rd.kept (kept_ex fun _ z => .inr z)))
theorem ss_retN : SndS X cn W (.Return none pos) mRetN := ps_imp ps_retN fun Dn s H ⟨r0, H0, r, env, st, Ex, o, p⟩ => p r .non H o.gr o.rs .non
theorem ss_expr (h : SndE X cn W cl e m) (hs : swapsWith e none pos.line X.env = pure false := by rfl) : SndS X cn W (.Expr e pos) (mDrop m) := ps_imp (ps_expr h hs) fun Dn s H ⟨r0, H0, r, env, st, Ex, o, p⟩ =>
  tM_at o.at_ ((PostS.ofE o p).mono fun v H1 ⟨r1, d, st1, g, o1, rd, p1⟩ => p1 r1 s H1 o1)
theorem ss_if (hc : SndT X cn W cl e m) (h1 : SndSs X cn W ss m1) (h2 : SndSs X cn W ss2 m2) : SndS X cn W (.If e ss ss2 pos) (mIf m m1 m2) := ps_imp (ps_if hc h1 h2) fun Dn s H ⟨r0, H0, r, env, st, Ex, o, p⟩ =>
  ⟨r, env, st, _, o.at_, (PostS.ofT o p).mono fun b H1 ⟨r1, st1, g, o1, p1⟩ => by
    cases b with
    | true => exact ⟨r0, H0, r1, env, st1, Ex, o1, p1⟩
    | false => exact ⟨r0, H0, r1, env, st1, Ex, o1, p1⟩⟩
end

/-! ## stores to slots -/
section
variable {K : PySem.W.Frag} {cn : CN} {W : WX} {Ex : Addr → Prop} {cl : Bool} {r0 r r' : List Addr} {H0 H H' : Hp} {env : SEnv} {s : L2.St} {st st' : Sto} {Dn : Ends} {i : Nat} {v : V} {d : D}
theorem own_set {a : Addr} {x : Option V} {sv : SV} (hv : ∀ ds, sv ≠ .own ds) (h : Own (env.set i sv) (s.set i x) a) : Own env s a := by
  obtain ⟨j, ds, h1, h2⟩ := h
  by_cases e : i = j
  · subst e
    rw [List.getElem?_set] at h1
    split at h1
    · split at h1
      · exact absurd (Option.some.inj h1) (hv ds)
      · cases h1
    · rename_i z; exact absurd rfl z
  · rw [List.getElem?_set_ne e] at h1 h2
    exact ⟨j, ds, h1, h2⟩
theorem noOwn_ok (h : noOwn env = true) (a : Addr) : ¬ Own env s a := fun ⟨j, ds, h1, _⟩ => by
  have : env.any isOwn = true := List.any_eq_true.mpr ⟨_, List.mem_of_getElem? h1, rfl⟩
  unfold noOwn at h
  rw [this] at h
  cases h
theorem set_get {a : Type} {l : List a} {i j : Nat} {x y : a} (h : (l.set i x)[j]? = some y) : (i = j ∧ y = x) ∨ (i ≠ j ∧ l[j]? = some y) := by
  by_cases e : i = j
  · subst e
    rw [List.getElem?_set] at h
    split at h
    · split at h
      · exact .inl ⟨rfl, (Option.some.inj h).symm⟩
      · cases h
    · rename_i z; exact absurd rfl z
  · rw [List.getElem?_set_ne e] at h
    exact .inr ⟨e, h⟩
theorem EnvOk.put (eo : EnvOk K cn Ex r H env s) (rd : RD K r H (OwnX env s Ex) v d) : EnvOk K cn Ex r H (env.set i (.val d)) (s.set i (some v)) := by
  have hx : ∀ a, OwnX (env.set i (.val d)) (s.set i (some v)) Ex a → OwnX env s Ex a := fun a h => h.elim (fun h => .inl (own_set (fun _ z => by cases z) h)) .inr
  refine ⟨by rw [List.length_set, List.length_set]; exact eo.len, fun j e h => ?_, fun j ds h => ?_, fun j k ds es a h1 h2 h3 h4 => ?_⟩
  · have hlt := (List.getElem?_eq_some_iff.mp h).1
    rw [List.length_set, eo.len] at hlt
    rcases set_get h with ⟨e1, h5⟩ | ⟨hn, h⟩
    · subst e1
      cases h5
      have hl : i < s.length := hlt
      exact ⟨v, by rw [List.getElem?_set_self hl], rd.kept (kept_ex hx)⟩
    · obtain ⟨v2, h1, h2⟩ := eo.val j e h
      exact ⟨v2, by rw [List.getElem?_set_ne hn]; exact h1, h2.kept (kept_ex hx)⟩
  · rcases set_get h with ⟨_, h5⟩ | ⟨hn, h⟩
    · cases h5
    · obtain ⟨a, vs, h1, h2, h3, h4⟩ := eo.own j ds h
      exact ⟨a, vs, by rw [List.getElem?_set_ne hn]; exact h1, h2, h3, h4.kept (kept_ex hx)⟩
  · rcases set_get h1 with ⟨_, h5⟩ | ⟨hn, h⟩
    · cases h5
    · rcases set_get h2 with ⟨_, h5⟩ | ⟨hn', h'⟩
      · cases h5
      · rw [List.getElem?_set_ne hn] at h3
        rw [List.getElem?_set_ne hn'] at h4
        exact eo.inj j k ds es a h h' h3 h4
theorem StOk.put (o : StOk K cn Ex r0 H0 r env st s H) (rd : RD K r H (OwnX env s Ex) v d) : StOk K cn Ex r0 H0 r (env.set i (.val d)) st (s.set i (some v)) H :=
  ⟨o.gr, o.rs, o.eo.put rd, fun a h => o.fr a (own_set (fun _ z => by cases z) h), o.xo⟩
theorem RD.ownx (rd : RD K r H (exOf true env s Ex) v d) : RD K r H (OwnX env s Ex) v d := rd.kept (kept_ex fun a z => z.elim (fun z => .inl ⟨rfl, z⟩) .inr)
end
section
variable {X : Cx} {cn : CN} {W : WX} {cl : Bool} {pos pos' : Pos} {e : Expr} {m : ME}
theorem ss_set {i : Nat} {x : Str} (hN : X.N.Nodup) (hi : X.N[i]? = some x) (hx : Loc X.env.scope x) (he : SndE X cn W true e m) (hs : swapsWith e (some (.Name x pos')) pos.line X.env = pure false := by rfl) (hf : X.fn x = true ∨ X.env.scope.names.lookup x = some .local := by first | exact .inl rfl | exact .inr rfl | assumption) :
    SndS X cn W (.Assign [.Name x pos'] e pos) (mSet i m) := ps_imp (ps_set hN hi hx he hs hf) fun Dn s H ⟨r0, H0, r, env, st, Ex, o, p⟩ =>
  tM_at o.at_ ((PostS.ofE o p).mono fun v H1 ⟨r1, d, st1, g, o1, rd, p1⟩ => p1 r1 _ H1 (o1.put rd.ownx))
end

/-! ## a def's body keeps the promise -/
def startE (n : Nat) (ds : List D) : SEnv := ds.map .val ++ List.replicate (n - ds.length) .un
/-- a body as a function -/
def fnOf (n : Nat) (m : MS) : FS := fun ds st => match m (startE n ds) st with
  | .nx _ st1 => .ok .non st1
  | .rt d st1 => .ok d st1
  | .exc c f _ st1 => .exc c f st1
  | _ => .bad
theorem envOk_start {K : PySem.W.Frag} {cn : CN} {Ex : Addr → Prop} {r : List Addr} {H : Hp} {N : List Str} {vs : List V} {ds : List D} (rd : RDs K r H Ex vs ds) : EnvOk K cn Ex r H (startE N.length ds) (L2.start N vs) := by
  have noown : ∀ (i : Nat) (es : List D), (startE N.length ds)[i]? ≠ some (.own es) := fun i es h => by
    unfold startE at h
    by_cases hi : i < ds.length
    · rw [List.getElem?_append_left (by simpa using hi), List.getElem?_map] at h
      cases e : ds[i]? with
      | none => rw [e] at h; cases h
      | some d => rw [e] at h; cases h
    · rw [List.getElem?_append_right (by simpa using hi), List.getElem?_replicate] at h
      split at h <;> cases h
  refine ⟨?_, fun i d h => ?_, fun i es h => absurd h (noown i es), fun i j es fs a h _ _ _ => absurd h (noown i es)⟩
  · unfold startE L2.start
    simp [rd.length]
  · unfold startE at h
    by_cases hi : i < ds.length
    · rw [List.getElem?_append_left (by simpa using hi), List.getElem?_map] at h
      cases e : ds[i]? with
      | none => rw [e] at h; cases h
      | some d2 =>
        rw [e] at h
        cases h
        obtain ⟨v, h1, h2⟩ := rd.get e
        refine ⟨v, ?_, h2.kept (kept_ex fun a z => z.elim (fun ⟨j, es, z, _⟩ => absurd z (noown j es)) fun z => z)⟩
        unfold L2.start
        have hv : i < vs.length := (List.getElem?_eq_some_iff.mp h1).1
        rw [List.getElem?_append_left (by simpa using hv), List.getElem?_map, h1]
        rfl
    · rw [List.getElem?_append_right (by simpa using hi), List.getElem?_replicate] at h
      split at h <;> cases h
/-- where a def's body stands -/
structure Ctx (X : Cx) (W : WX) (k : Nat) : Prop where
  tk : Takes X W
  po : PassesOwn (model X.prog X.w) X.A X.env X.xe
  calm : X.calm = true
  nd : X.N.Nodup
  room : Room k X.A
  hs : X.stack = X.env :: X.outer
  hf : X.env.frame = some X.env.locals
theorem Ctx.units {X : Cx} {W : WX} {k : Nat} (c : Ctx X W k) : X.A.units + 64 < cLine := c.room.units
/-- a def with n parameters and N slots -/
def fnOfN (n N : Nat) (m : MS) : FS := fun ds st => if ds.length = n then fnOf N m ds st else .bad
section
variable {P : Program} {w : World} {K : PySem.W.Frag} {mg : Str → Option Value} {base : Heap} {cn : CN} {x qual : Str} {params : Arguments} {body : List Stmt} {scope : Scope} {f : Addr} {fd : FuncData} {N ps : List Str} {k n : Nat} {m : MS}
/-- the body, from the slots at its start -/
theorem body_at {Xb : Cx} {W : WX} {H : Hp} {vs : List V} {ds : List D} {Q : VK} {r : List Addr} {st : Sto} {Ex : Addr → Prop} {E : XK} (hK : Xb.K = K) (hb : SndSs Xb cn W body m) (rs : RelSt K cn r st H) (xo : ExO Ex H) (rd : RDs K r H Ex vs ds) (hW : ∀ cls dd s H', E cls dd H' → W cls dd s H') (p : PostE K cn (fun cls dd _ H' => E cls dd H') Ex (fnOf N.length m ds st) r H [] Q) :
    ∃ t, PSs Xb body t ∧ t { nx := fun _ H' => Q .non H', rt := Q } (L2.start N vs) H := by
  subst hK
  refine ⟨_, hb, ?_⟩
  refine ⟨r, H, r, startE N.length ds, st, Ex, ⟨Grow.refl, rs, envOk_start rd, fun a ⟨j, es, z, y⟩ => ?_, xo⟩, ?_⟩
  · exfalso
    have e2 : (startE N.length ds)[j]? = some (.own es) := z
    unfold startE at e2
    by_cases hi : j < ds.length
    · rw [List.getElem?_append_left (by simpa using hi), List.getElem?_map] at e2
      cases e : ds[j]? with
      | none => rw [e] at e2; cases e2
      | some d2 => rw [e] at e2; cases e2
    · rw [List.getElem?_append_right (by simpa using hi), List.getElem?_replicate] at e2
      split at e2 <;> cases e2
  · unfold fnOf at p
    cases e : m (startE N.length ds) st with
    | nx env st1 => rw [e] at p; exact fun r1 s1 H1 o => p r1 .non H1 o.gr o.rs .non
    | rt d st1 => rw [e] at p; exact fun r1 v H1 g rs1 rd1 => p r1 v H1 g rs1 rd1
    | exc c f env st1 => rw [e] at p; exact fun r1 s1 H1 cls dd o ex => hW _ _ _ _ (p r1 H1 cls dd o.gr o.rs ex)
    | bk env st1 => rw [e] at p; exact p.elim
    | ct env st1 => rw [e] at p; exact p.elim
    | bad => rw [e] at p; exact p.elim
/-- THE RULE -/
theorem fnK_of (F : FunD K x qual params body scope [] [] f fd) (S : FnScope N ps scope) (hn : ps.length = n)
    (hbody : ∀ (cdv : Value) (A : Around) (outer : List Env) (s : Shared) (H : Hp) (E : XK) (W : WX), Ctx (cxOf (L2.CX P w) P w K mg base N qual scope f cdv A outer s H E) W k → SndSs (cxOf (L2.CX P w) P w K mg base N qual scope f cdv A outer s H E) cn W body m) :
    FnOk P w K mg base (L2.CX P w) (k + 1) f fd ps (fun vs H Q E => vs.length = n ∧ spOf K cn (fnOf N.length m) vs H Q E) :=
  FunD.ok (P := P) (w := w) (mg := mg) (base := base) (CX := L2.CX P w) (k := k) F S (fun vs H Q E h => h.1.trans hn.symm) fun cdv A outer s H vs Q E hr hsp => by
    obtain ⟨hl, r, ds, st, Ex, rs, xo, rd, p⟩ := hsp
    have hW := takes_of (X := cxOf (L2.CX P w) P w K mg base N qual scope f cdv A outer s H E) rfl rfl rfl rfl
    exact body_at rfl (hbody cdv A outer s H E _ ⟨hW, passes_of rfl, rfl, S.nd, hr, rfl, rfl⟩) rs xo rd (fun _ _ _ _ z => z) p
theorem fnT_of (F : FunD K x qual params body scope [] [] f fd) (S : FnScope N ps scope) (hn : ps.length = n)
    (hb : ∀ (kV doc pm : Value) (an : Option Addr) (cdv ct : Value) (us : List Value), us.length = ps.length → bindArgs (PySem.W.fnOf x qual params body scope .none kV doc pm an cdv ct) ⟨us, []⟩ = pure (ps.zip us))
    (hbody : ∀ (cdv : Value) (A : Around) (outer : List Env) (s : Shared) (H : Hp) (E : XK) (W : WX), Ctx (cxOf (L2.CX P w) P w K mg base N qual scope f cdv A outer s H E) W k → SndSs (cxOf (L2.CX P w) P w K mg base N qual scope f cdv A outer s H E) cn W body m) :
    FnT P w K mg base cn f (k + 1) (fnOfN n N.length m) := by
  refine ⟨F.kp, ((fnK_of F S hn hbody).raw (F.bindsN hb) .nil).imp fun vs H Q E h => ?_⟩
  rw [List.append_nil]
  obtain ⟨r, ds, st, Ex, rs, xo, rd, p⟩ := h
  unfold fnOfN at p
  by_cases hl : ds.length = n
  · rw [if_pos hl] at p
    exact ⟨rd.length.trans hl, r, ds, st, Ex, rs, xo, rd, p⟩
  · rw [if_neg hl] at p; exact p.elim
theorem fnS_of (F : FunD K x qual params body scope [] [] f fd) (gf : mg x = some (.ref f)) (S : FnScope N ps scope) (hn : ps.length = n)
    (hb : ∀ (kV doc pm : Value) (an : Option Addr) (cdv ct : Value) (us : List Value), us.length = ps.length → bindArgs (PySem.W.fnOf x qual params body scope .none kV doc pm an cdv ct) ⟨us, []⟩ = pure (ps.zip us))
    (hbody : ∀ (cdv : Value) (A : Around) (outer : List Env) (s : Shared) (H : Hp) (E : XK) (W : WX), Ctx (cxOf (L2.CX P w) P w K mg base N qual scope f cdv A outer s H E) W k → SndSs (cxOf (L2.CX P w) P w K mg base N qual scope f cdv A outer s H E) cn W body m) :
    FnS P w K mg base cn x (k + 1) (fnOfN n N.length m) := ⟨f, gf, fnT_of F S hn hb hbody⟩
/-- def f(a, .., *v) -/
def fnOfS (n N : Nat) (m : MS) : FS := fun ds st => if (decide (n ≤ ds.length) && sz (ds.length - n)) = true then fnOf N m (ds.take n ++ [.tup (ds.drop n)]) st else .bad
theorem fnT_star {pv : Str} (F : FunD K x qual params body scope [] [] f fd) (S : FnScope N (ps ++ [pv]) scope) (hn : ps.length = n)
    (hb : ∀ (kV doc pm : Value) (an : Option Addr) (cdv ct : Value) (us rest : List Value), us.length = ps.length → bindArgs (PySem.W.fnOf x qual params body scope .none kV doc pm an cdv ct) ⟨us ++ rest, []⟩ = (newTuple rest >>= fun t => pure (ps.zip us ++ [(pv, t)])))
    (hbody : ∀ (cdv : Value) (A : Around) (outer : List Env) (s : Shared) (H : Hp) (E : XK) (W : WX), Ctx (cxOf (L2.CX P w) P w K mg base N qual scope f cdv A outer s H E) W k → SndSs (cxOf (L2.CX P w) P w K mg base N qual scope f cdv A outer s H E) cn W body m) :
    FnT P w K mg base cn f (k + 1) (fnOfS n N.length m) := by
  obtain ⟨oc, od, dV, kV, doc, pm, an, cdv, ct, osl, rfl, lk, hcd, hd, _⟩ := F.ex
  obtain rfl : dV = .none := by
    rcases hd with ⟨_, z⟩ | ⟨z, _⟩
    · exact z
    · exact absurd rfl z
  refine ⟨F.kp, (StX.fn_star (P := P) (w := w) (mg := mg) (base := base) (k := k) (sp := fun vs H Q E => spOf K cn (fnOf N.length m) vs H Q E) lk hcd S StX.cxUp (hb kV doc pm an cdv ct) fun A outer s H vs Q E hr hsp => ?_).imp fun vs H Q E h => ?_⟩
  · obtain ⟨r, ds, st, Ex, rs, xo, rd, p⟩ := hsp
    have hW := takes_of (X := cxOf (L2.CX P w) P w K mg base N qual scope f cdv A outer s H E) rfl rfl rfl rfl
    exact body_at rfl (hbody cdv A outer s H E _ ⟨hW, passes_of rfl, rfl, S.nd, hr, rfl, rfl⟩) rs xo rd (fun _ _ _ _ z => z) p
  · obtain ⟨r, ds, st, Ex, rs, xo, rd, p⟩ := h
    unfold fnOfS at p
    by_cases hl : (decide (n ≤ ds.length) && sz (ds.length - n)) = true
    · rw [if_pos hl] at p
      obtain ⟨h1, h2⟩ := Bool.and_eq_true_iff.mp hl
      have h1 := of_decide_eq_true h1
      have h2 := sz_ok h2
      refine ⟨vs.take n, vs.drop n, (List.take_append_drop n vs).symm, by rw [List.length_take, rd.length, hn]; omega, by rw [List.length_drop, rd.length]; exact h2, fun q hq => ?_⟩
      have g := Grow.lay (r := r) (o := .tup (vs.drop n)) hq
      refine ⟨r, ds.take n ++ [.tup (ds.drop n)], st, Ex, rs.lay hq, xo.grow g (rs.lay hq), ?_, PostE.grow (x := fnOf N.length m _ st) p g⟩
      exact (g.rds (rd.take n)).append (.cons (.tup upd_same (rs.out hq) (g.rds (rd.drop n))) .nil)
    · rw [if_neg hl] at p; exact p.elim
end
end Fx

namespace Fx
open PySem PySem.Spec PyProof.Rows L2

/-! ## sequences as they stand -/
def lsOf (st : Sto) : D → Option (List D)
  | .lst ds => some ds
  | .obj n => match st[n]? with
    | some (.lst ds) => some ds
    | _ => none
  | .scr ns => some (ns.map D.int)
  | _ => none
section
variable {K : PySem.W.Frag} {cn : CN} {Ex : Addr → Prop} {r : List Addr} {H : Hp} {st : Sto} {v : V} {d : D} {ds : List D}
theorem rds_ints {ns : List Int} : RDs K r H Ex (ns.map V.int) (ns.map D.int) := by
  induction ns with
  | nil => exact .nil
  | cons n ns ih => exact .cons (.int n) ih
theorem ls_at (rs : RelSt K cn r st H) (rd : RD K r H Ex v d) (h : lsOf st d = some ds) : ∃ a vs, v = .ref a ∧ SqL K H a vs ∧ RDs K r H Ex vs ds := by
  cases d with
  | lst es =>
    cases h
    cases rd with
    | lst h hn hx hs => exact ⟨_, _, rfl, .inl (.inl h), hs⟩
  | scr ns =>
    cases h
    cases rd with
    | scr h hn hx => exact ⟨_, _, rfl, .inl h, rds_ints⟩
    | scrK h => exact ⟨_, _, rfl, .inr h, rds_ints⟩
  | obj n =>
    cases rd with
    | obj hr =>
      simp only [lsOf] at h
      cases e : st[n]? with
      | none => rw [e] at h; cases h
      | some mo =>
        rw [e] at h
        cases mo with
        | lst es =>
          cases h
          obtain ⟨vs, h1, h2⟩ := rs.ok n _ _ e hr
          exact ⟨_, vs, rfl, .inl (.inl h1), h2.any⟩
        | dK _ _ => cases h
        | dT _ _ => cases h
        | ins _ _ => cases h
  | _ => cases h
theorem tu_at (rd : RD K r H Ex v (.tup ds)) : ∃ a vs, v = .ref a ∧ SqT K H a vs ∧ RDs K r H Ex vs ds := by
  cases rd with
  | tup h hn hs => exact ⟨_, _, rfl, .inl (.inl h), hs⟩
  | tupK h hs => exact ⟨_, _, rfl, .inr h, hs⟩
theorem atI_rd {vs : List V} {i : Int} (h : RDs K r H Ex vs ds) (e : atI ds i = some d) : ∃ x, atI vs i = some x ∧ RD K r H Ex x d := by
  unfold atI at e ⊢
  rw [← h.length] at e
  cases q : ixN vs.length i with
  | none => rw [q] at e; cases e
  | some j => rw [q] at e; exact h.get e
end

/-! ## numbers -/
/-- a list that is no script -/
def lstOf (st : Sto) : D → Option (List D)
  | .lst ds => some ds
  | .obj n => match st[n]? with
    | some (.lst ds) => some ds
    | _ => none
  | _ => none
def fAdd : D → D → Sto → R D
  | .int i, .int j, st => .ok (.int (i + j)) st
  | .str a, .str b, st => if sz (a.length + b.length) = true then .ok (.str (a ++ b)) st else .bad
  | .tup xs, .tup ys, st => if sz (xs.length + ys.length) = true then .ok (.tup (xs ++ ys)) st else .bad
  | .lst xs, .lst ys, st => if sz (xs.length + ys.length) = true then .ok (.lst (xs ++ ys)) st else .bad
  | x, y, st => (match lstOf st x, lstOf st y with
    | some xs, some ys => if sz (xs.length + ys.length) = true then .ok (.lst (xs ++ ys)) st else .bad
    | _, _ => .bad)
def fSub : D → D → Sto → R D
  | .int i, .int j, st => .ok (.int (i - j)) st
  | _, _, _ => .bad
/-- few bits -/
def bits (i : Int) (n : Nat) : Bool := decide (i.natAbs < 2 ^ n)
def fMul : D → D → Sto → R D
  | .int i, .int j, st => if (bits i 4000 && bits j 4000) = true then .ok (.int (i * j)) st else .bad
  | _, _, _ => .bad
def fDiv : D → D → Sto → R D
  | .int i, .int j, st => if (decide (0 < j) && bits j 4000) = true then .ok (.int (i / j)) st else .bad
  | _, _, _ => .bad
def fMod : D → D → Sto → R D
  | .int i, .int j, st => if 0 < j then .ok (.int (i % j)) st else .bad
  | _, _, _ => .bad
def fPow : D → D → Sto → R D
  | .int i, .int j, st => if (decide (0 ≤ j) && (decide (j ≤ 100) && decide (i.natAbs < 1000))) = true then .ok (.int (i ^ j.toNat)) st else .bad
  | _, _, _ => .bad
def fNeg : D → Sto → R D
  | .int i, st => .ok (.int (-i)) st
  | _, _ => .bad
def rAddA (K : PySem.W.Frag) : R2 := fun x y H Q => rI0 (fun i j => .int (i + j)) x y H Q ∨ (∃ i j, x = .str i ∧ y = .str j ∧ i.length + j.length ≤ sizeLine ∧ Q (.str (i ++ j)) H) ∨ rCatA K x y H Q ∨ rCat x y H Q
section
variable {X : Cx} {cn : CN} {K : PySem.W.Frag} {Ex : Addr → Prop} {cl : Bool}
theorem op_addA : OpR X (binaryOp .Add) (rAddA X.K) := op_add.or (op_add_str.or (op_catA.or op_cat))
theorem lst_at {r : List Addr} {H : Hp} {st : Sto} {v : V} {d : D} {ds : List D} (rs : RelSt K cn r st H) (rd : RD K r H Ex v d) (h : lstOf st d = some ds) : ∃ a vs, v = .ref a ∧ H a = some (.lst vs) ∧ RDs K r H Ex vs ds := by
  cases d with
  | lst es =>
    cases h
    cases rd with
    | lst h hn hx hs => exact ⟨_, _, rfl, h, hs⟩
  | obj n =>
    cases rd with
    | obj hr =>
      simp only [lstOf] at h
      cases e : st[n]? with
      | none => rw [e] at h; cases h
      | some mo =>
        rw [e] at h
        cases mo with
        | lst es =>
          cases h
          obtain ⟨vs, h1, h2⟩ := rs.ok n _ _ e hr
          exact ⟨_, vs, rfl, h1, h2.any⟩
        | dK _ _ => cases h
        | dT _ _ => cases h
        | ins _ _ => cases h
  | _ => cases h
theorem o2_add : Op2 K cn (rAddA K) fAdd := by
  intro W Ex r st H s x y dx dy Q xo rs rx ry p
  have lists : ∀ {dx dy : D}, RD K r H Ex x dx → RD K r H Ex y dy → PostE K cn W Ex (match lstOf st dx, lstOf st dy with
      | some xs, some ys => if sz (xs.length + ys.length) = true then .ok (.lst (xs ++ ys)) st else .bad
      | _, _ => .bad) r H s Q → rAddA K x y H Q := fun {dx dy} rx ry p => by
    cases e1 : lstOf st dx with
    | none => rw [e1] at p; exact p.elim
    | some xs =>
      cases e2 : lstOf st dy with
      | none => rw [e1, e2] at p; exact p.elim
      | some ys =>
        rw [e1, e2] at p
        simp only at p
        by_cases hz : sz (xs.length + ys.length) = true
        · rw [if_pos hz] at p
          obtain ⟨a, vs, rfl, h1, h2⟩ := lst_at rs rx e1
          obtain ⟨b, ws, rfl, h3, h4⟩ := lst_at rs ry e2
          exact .inr (.inr (.inr ⟨_, _, _, _, rfl, rfl, h1, h3, by rw [h2.length, h4.length]; exact sz_ok hz, fun q hq => p r _ _ (Grow.lay hq) (rs.lay hq) (.lst upd_same (rs.out hq) (fun z => xo _ z hq) ((Grow.lay hq).rds (h2.append h4)))⟩))
        · rw [if_neg hz] at p; exact p.elim
  cases dx with
  | int i =>
    cases dy with
    | int j => cases rx; cases ry; exact .inl ⟨i, j, rfl, rfl, PostE.here p rs (.int _)⟩
    | _ => exact lists rx ry p
  | str i =>
    cases dy with
    | str j =>
      cases rx; cases ry
      simp only [fAdd] at p
      by_cases hz : sz (i.length + j.length) = true
      · rw [if_pos hz] at p; exact .inr (.inl ⟨i, j, rfl, rfl, sz_ok hz, PostE.here p rs (.str _)⟩)
      · rw [if_neg hz] at p; exact p.elim
    | _ => exact lists rx ry p
  | tup xs =>
    cases dy with
    | tup ys =>
      obtain ⟨a, vs, rfl, h1, h2⟩ := tu_at rx
      obtain ⟨b, ws, rfl, h3, h4⟩ := tu_at ry
      simp only [fAdd] at p
      by_cases hz : sz (xs.length + ys.length) = true
      · rw [if_pos hz] at p
        refine .inr (.inr (.inl ⟨a, b, vs, ws, rfl, rfl, h1, h3, by rw [h2.length, h4.length]; exact sz_ok hz, fun e => ?_, fun _ e => ?_, fun _ _ q hq => ?_⟩))
        · have : xs = [] := by cases h2 with
            | nil => rfl
            | cons _ _ => cases e
          rw [this, List.nil_append] at p
          exact PostE.here p rs ry
        · have : ys = [] := by cases h4 with
            | nil => rfl
            | cons _ _ => cases e
          rw [this, List.append_nil] at p
          exact PostE.here p rs rx
        · exact p r _ _ (Grow.lay hq) (rs.lay hq) (.tup upd_same (rs.out hq) ((Grow.lay hq).rds (h2.append h4)))
      · rw [if_neg hz] at p; exact p.elim
    | _ => exact lists rx ry p
  | lst xs =>
    cases dy with
    | lst ys =>
      simp only [fAdd] at p
      by_cases hz : sz (xs.length + ys.length) = true
      · rw [if_pos hz] at p
        cases rx with
        | lst h1 hn hx h2 =>
          cases ry with
          | lst h3 hn' hx' h4 =>
            exact .inr (.inr (.inr ⟨_, _, _, _, rfl, rfl, h1, h3, by rw [h2.length, h4.length]; exact sz_ok hz, fun q hq => p r _ _ (Grow.lay hq) (rs.lay hq) (.lst upd_same (rs.out hq) (fun z => xo _ z hq) ((Grow.lay hq).rds (h2.append h4)))⟩))
      · rw [if_neg hz] at p; exact p.elim
    | _ => exact lists rx ry p
  | _ => exact lists rx ry p
/-- int by int -/
theorem o2_int {r : R2} {f : D → D → Sto → R D} (h : ∀ i j st (H : Hp) (Q : VK) W Ex ro s, RelSt K cn ro st H → PostE K cn W Ex (f (.int i) (.int j) st) ro H s Q → r (.int i) (.int j) H Q) (hb : ∀ dx dy st, (∀ i j, ¬ (dx = .int i ∧ dy = .int j)) → f dx dy st = .bad) : Op2 K cn r f := by
  intro W Ex ro st H s x y dx dy Q xo rs rx ry p
  by_cases e : ∃ i j, dx = .int i ∧ dy = .int j
  · obtain ⟨i, j, rfl, rfl⟩ := e
    cases rx; cases ry
    exact h i j st H Q W Ex ro s rs p
  · rw [hb dx dy st fun i j z => e ⟨i, j, z⟩] at p
    exact p.elim
theorem o2_sub : Op2 K cn (rI0 fun i j => .int (i - j)) fSub := o2_int (fun i j st H Q W Ex ro s rs p => ⟨i, j, rfl, rfl, PostE.here p rs (.int _)⟩) fun dx dy st h => by
  cases dx <;> cases dy <;> first | rfl | exact absurd ⟨rfl, rfl⟩ (h _ _)
theorem bits_ok {i : Int} {n : Nat} (h : bits i n = true) : i.natAbs < 2 ^ n := of_decide_eq_true h
theorem o2_mul : Op2 K cn (rI CMulW fun i j => .int (i * j)) fMul := o2_int (fun i j st H Q W Ex ro s rs p => by
    simp only [fMul] at p
    by_cases hz : (bits i 4000 && bits j 4000) = true
    · rw [if_pos hz] at p
      obtain ⟨h1, h2⟩ := Bool.and_eq_true_iff.mp hz
      exact ⟨i, j, rfl, rfl, wide_mul (bits_ok h1) (bits_ok h2) (by decide) (by decide) (by decide), PostE.here p rs (.int _)⟩
    · rw [if_neg hz] at p; exact p.elim) fun dx dy st h => by
  cases dx <;> cases dy <;> first | rfl | exact absurd ⟨rfl, rfl⟩ (h _ _)
theorem o2_div : Op2 K cn (rI CDivW fun i j => .int (i / j)) fDiv := o2_int (fun i j st H Q W Ex ro s rs p => by
    simp only [fDiv] at p
    by_cases hz : (decide (0 < j) && bits j 4000) = true
    · rw [if_pos hz] at p
      obtain ⟨h1, h2⟩ := Bool.and_eq_true_iff.mp hz
      exact ⟨i, j, rfl, rfl, wide_div (of_decide_eq_true h1) (bits_ok h2) (by decide) (by decide), PostE.here p rs (.int _)⟩
    · rw [if_neg hz] at p; exact p.elim) fun dx dy st h => by
  cases dx <;> cases dy <;> first | rfl | exact absurd ⟨rfl, rfl⟩ (h _ _)
theorem o2_mod : Op2 K cn (rI (fun _ j => 0 < j) fun i j => .int (i % j)) fMod := o2_int (fun i j st H Q W Ex ro s rs p => by
    simp only [fMod] at p
    by_cases hz : 0 < j
    · rw [if_pos hz] at p
      exact ⟨i, j, rfl, rfl, hz, PostE.here p rs (.int _)⟩
    · rw [if_neg hz] at p; exact p.elim) fun dx dy st h => by
  cases dx <;> cases dy <;> first | rfl | exact absurd ⟨rfl, rfl⟩ (h _ _)
theorem o2_pow : Op2 K cn (rI CPow fun i j => .int (i ^ j.toNat)) fPow := o2_int (fun i j st H Q W Ex ro s rs p => by
    simp only [fPow] at p
    by_cases hz : (decide (0 ≤ j) && (decide (j ≤ 100) && decide (i.natAbs < 1000))) = true
    · rw [if_pos hz] at p
      obtain ⟨h1, h2⟩ := Bool.and_eq_true_iff.mp hz
      obtain ⟨h2, h3⟩ := Bool.and_eq_true_iff.mp h2
      have h1 := of_decide_eq_true h1
      have h2 := of_decide_eq_true h2
      have h3 := of_decide_eq_true h3
      exact ⟨i, j, rfl, rfl, ⟨h1, by omega, by omega⟩, PostE.here p rs (.int _)⟩
    · rw [if_neg hz] at p; exact p.elim) fun dx dy st h => by
  cases dx <;> cases dy <;> first | rfl | exact absurd ⟨rfl, rfl⟩ (h _ _)
theorem o1_neg : Op1 K cn (rU fun i => .int (-i)) fNeg := by
  intro W Ex ro st H s x dx Q xo rs rx p
  cases dx with
  | int i => cases rx; exact ⟨i, rfl, PostE.here p rs (.int _)⟩
  | _ => exact p.elim
end

/-! ## comparisons -/
def fCmp (p : Int → Int → Bool) : D → D → Sto → R D
  | .int i, .int j, st => .ok (.bl (p i j)) st
  | _, _, _ => .bad
abbrev fLt := fCmp fun i j => decide (i < j)
abbrev fLe := fCmp fun i j => decide (i ≤ j)
abbrev fGt := fCmp fun i j => decide (j < i)
abbrev fGe := fCmp fun i j => decide (j ≤ i)
mutual
def toP : D → PyData
  | .non => .none
  | .bl b => .bool b
  | .int i => .int i
  | .str x => .str x
  | .tup ds => .tuple (toPs ds)
  | .lst ds => .list (toPs ds)
  | _ => .dict []
def toPs : List D → List PyData
  | [] => []
  | d :: ds => toP d :: toPs ds
end
def deq (d e : D) : Bool := PyData.eqv (toP d) (toP e)
def shp (d : D) : Bool := SeqAt.shaped (toP d)
/-- ==: scalars as they are, else as data -/
def eqD (d e : D) : Option Bool := match d, e with
  | .int i, .int j => some (decide (i = j))
  | .str i, .str j => some (decide (i = j))
  | .bl i, .bl j => some (decide (i = j))
  | .non, .non => some true
  | d, e => if (shp d && shp e) = true then some (deq d e) else none
def fEq (d e : D) (st : Sto) : R D := match eqD d e with
  | some b => .ok (.bl b) st
  | none => .bad
def fNe (d e : D) (st : Sto) : R D := match eqD d e with
  | some b => .ok (.bl (!b)) st
  | none => .bad
def rEqA (K : PySem.W.Frag) : R2 := fun x y H Q => rEq x y H Q ∨ rEqD K x y H Q
def rNeA (K : PySem.W.Frag) : R2 := fun x y H Q => rNe x y H Q ∨ rNeD K x y H Q
section
variable {X : Cx} {cn : CN} {K : PySem.W.Frag} {Ex : Addr → Prop} {cl : Bool} {r : List Addr} {H : Hp}
theorem op_eqA (hu : X.A.units + 64 < cLine) : OpR X (compareOp .Eq) (rEqA X.K) := op_eq.or (op_eqD hu)
theorem op_neA (hu : X.A.units + 64 < cLine) : OpR X (compareOp .NotEq) (rNeA X.K) := op_ne.or (op_neD hu)
mutual
theorem dp_of : ∀ {v : V} {d : D}, RD K r H Ex v d → (toP d).canLay0 = true → Dp K H v (toP d)
  | _, _, .non, _ => .non
  | _, _, .bl b, _ => .bl b
  | _, _, .int i, _ => .int i
  | _, _, .str x, _ => .str x
  | _, _, .tup h hn hs, e => by
    simp only [toP, PyData.canLay0] at e ⊢
    exact .tup (.inl (.inl h)) (dps_of hs e)
  | _, _, .tupK h hs, e => by
    simp only [toP, PyData.canLay0] at e ⊢
    exact .tup (.inr h) (dps_of hs e)
  | _, _, .lst h hn hx hs, e => by
    simp only [toP, PyData.canLay0] at e ⊢
    exact .lst (.inl (.inl h)) (dps_of hs e)
  | _, _, .dK h hl hn hx hs, e => by simp [toP, PyData.canLay0] at e
  | _, _, .dT h hl hn hx hs, e => by simp [toP, PyData.canLay0] at e
  | _, _, .scr h hn hx, e => by simp [toP, PyData.canLay0] at e
  | _, _, .scrK h, e => by simp [toP, PyData.canLay0] at e
  | _, _, .obj h, e => by simp [toP, PyData.canLay0] at e
theorem dps_of : ∀ {vs : List V} {ds : List D}, RDs K r H Ex vs ds → PyData.canLayAll0 (toPs ds) = true → DpAll K H vs (toPs ds)
  | _, _, .nil, _ => by simp only [toPs]; exact .nil
  | _, _, .cons h hs, e => by
    simp only [toPs, PyData.canLayAll0, Bool.and_eq_true] at e ⊢
    exact .cons (dp_of h e.1) (dps_of hs e.2)
end
theorem eqD_rel {v w : V} {d e : D} {b : Bool} (h1 : RD K r H Ex v d) (h2 : RD K r H Ex w e) (h : eqD d e = some b) :
    (scal v w = true ∧ decide (v = w) = b) ∨ (∃ p q, Dp K H v p ∧ Dp K H w q ∧ SeqAt.shaped p = true ∧ SeqAt.shaped q = true ∧ PyData.eqv p q = b) := by
  have gen : (if (shp d && shp e) = true then some (deq d e) else none) = some b → (∃ p q, Dp K H v p ∧ Dp K H w q ∧ SeqAt.shaped p = true ∧ SeqAt.shaped q = true ∧ PyData.eqv p q = b) := fun z => by
    by_cases hz : (shp d && shp e) = true
    · rw [if_pos hz] at z
      obtain ⟨z1, z2⟩ := Bool.and_eq_true_iff.mp hz
      exact ⟨_, _, dp_of h1 (SeqAt.canLay_of_shaped z1), dp_of h2 (SeqAt.canLay_of_shaped z2), z1, z2, Option.some.inj z⟩
    · rw [if_neg hz] at z; cases z
  unfold eqD at h
  split at h
  · cases h1; cases h2; left; exact ⟨rfl, (by rw [← Option.some.inj h]; simp)⟩
  · cases h1; cases h2; left; exact ⟨rfl, (by rw [← Option.some.inj h]; simp)⟩
  · cases h1; cases h2; left; exact ⟨rfl, (by rw [← Option.some.inj h]; simp)⟩
  · cases h1; cases h2; left; exact ⟨rfl, (by rw [← Option.some.inj h]; simp)⟩
  · exact .inr (gen h)
theorem o2_eq : Op2 K cn (rEqA K) fEq := by
  intro W Ex ro st H s x y dx dy Q xo rs rx ry p
  unfold fEq at p
  cases e : eqD dx dy with
  | none => rw [e] at p; exact p.elim
  | some b =>
    rw [e] at p
    rcases eqD_rel rx ry e with ⟨h1, h2⟩ | ⟨q1, q2, h1, h2, h3, h4, h5⟩
    · exact .inl ⟨h1, by rw [h2]; exact PostE.here p rs (.bl _)⟩
    · exact .inr ⟨q1, q2, h1, h2, h3, h4, by rw [h5]; exact PostE.here p rs (.bl _)⟩
theorem o2_ne : Op2 K cn (rNeA K) fNe := by
  intro W Ex ro st H s x y dx dy Q xo rs rx ry p
  unfold fNe at p
  cases e : eqD dx dy with
  | none => rw [e] at p; exact p.elim
  | some b =>
    rw [e] at p
    rcases eqD_rel rx ry e with ⟨h1, h2⟩ | ⟨q1, q2, h1, h2, h3, h4, h5⟩
    · exact .inl ⟨h1, by rw [h2]; exact PostE.here p rs (.bl _)⟩
    · exact .inr ⟨q1, q2, h1, h2, h3, h4, by rw [h5]; exact PostE.here p rs (.bl _)⟩
theorem o2_cmp {p : Int → Int → Bool} : Op2 K cn (rI0 fun i j => .bl (p i j)) (fCmp p) := o2_int (fun i j st H Q W Ex ro s rs q => ⟨i, j, rfl, rfl, PostE.here q rs (.bl _)⟩) fun dx dy st h => by
  cases dx <;> cases dy <;> first | rfl | exact absurd ⟨rfl, rfl⟩ (h _ _)
end
def fIsN : D → D → Sto → R D
  | d, .non, st => .ok (.bl (match d with
    | .non => true
    | _ => false)) st
  | _, _, _ => .bad
def fNotN : D → D → Sto → R D
  | d, .non, st => .ok (.bl (match d with
    | .non => false
    | _ => true)) st
  | _, _, _ => .bad
/-- is of two truths too -/
def flD : D → Option V
  | .non => some .non
  | .bl b => some (.bl b)
  | .int i => some (.int i)
  | .str x => some (.str x)
  | _ => none
def flsD : List D → Option (List V)
  | [] => some []
  | d :: ds => match flD d, flsD ds with
    | some v, some vs => some (v :: vs)
    | _, _ => none
def inD (neg : Bool) (d c : D) (st : Sto) : R D := match flD d with
  | some v => (match (match c with
    | .tup ds => flsD ds
    | c => (lsOf st c).bind flsD) with
    | some vs => .ok (.bl (if neg then !inV v vs else inV v vs)) st
    | none => .bad)
  | none => .bad
section
variable {X : Cx} {cn : CN} {K : PySem.W.Frag} {Ex : Addr → Prop} {cl : Bool} {r : List Addr} {H : Hp}
theorem o2_isN : Op2 K cn (fun x y H Q => y = .non ∧ Q (.bl (decide (x = .non))) H) fIsN := by
  intro W Ex ro st H s x y dx dy Q xo rs rx ry p
  cases dy with
  | non =>
    cases ry
    refine ⟨rfl, ?_⟩
    cases rx <;> exact PostE.here p rs (.bl _)
  | _ => exact p.elim
theorem o2_notN : Op2 K cn (fun x y H Q => y = .non ∧ Q (.bl (!decide (x = .non))) H) fNotN := by
  intro W Ex ro st H s x y dx dy Q xo rs rx ry p
  cases dy with
  | non =>
    cases ry
    refine ⟨rfl, ?_⟩
    cases rx <;> exact PostE.here p rs (.bl _)
  | _ => exact p.elim
theorem fl_rel {v w : V} {d : D} (h : RD K r H Ex v d) (e : flD d = some w) : v = w ∧ flatV v = true := by
  cases d <;> simp [flD] at e <;> cases h <;> subst e <;> exact ⟨rfl, rfl⟩
theorem fls_rel : ∀ {vs ws : List V} {ds : List D}, RDs K r H Ex vs ds → flsD ds = some ws → vs = ws ∧ vs.all flatV = true
  | _, _, _, .nil, e => by simp [flsD] at e; subst e; exact ⟨rfl, rfl⟩
  | _, _, _, .cons (d := d) (ds := ds) h hs, e => by
    unfold flsD at e
    cases e1 : flD d with
    | none => rw [e1] at e; cases e
    | some v =>
      cases e2 : flsD ds with
      | none => rw [e1, e2] at e; cases e
      | some vs =>
        rw [e1, e2] at e
        cases e
        obtain ⟨h1, h2⟩ := fl_rel h e1
        obtain ⟨h3, h4⟩ := fls_rel hs e2
        subst h1; subst h3
        exact ⟨rfl, by rw [List.all_cons, h2, h4]; rfl⟩
theorem o2_in {neg : Bool} : Op2 K cn (rIn K neg) (inD neg) := by
  intro W Ex ro st H s x y dx dy Q xo rs rx ry p
  unfold inD at p
  cases e : flD dx with
  | none => rw [e] at p; exact p.elim
  | some v =>
    rw [e] at p
    obtain ⟨rfl, hf⟩ := fl_rel rx e
    have go : ∀ {es : List D} {vs : List V} {a : Addr} {ws : List V}, RDs K ro H Ex ws es → flsD es = some vs → (SqL K H a ws ∨ SqT K H a ws) → y = .ref a → PostE K cn W Ex (.ok (.bl (if neg then !inV x vs else inV x vs)) st) ro H s Q → rIn K neg x y H Q := fun {es vs a ws} h1 h2 h3 h4 q => by
      obtain ⟨rfl, h6⟩ := fls_rel h1 h2
      exact ⟨a, _, h4, h3, hf, h6, PostE.here q rs (.bl _)⟩
    have rest : ∀ {c : D}, RD K ro H Ex y c → (∀ ds, c ≠ .tup ds) → PostE K cn W Ex (match (lsOf st c).bind flsD with
        | some vs => .ok (.bl (if neg then !inV x vs else inV x vs)) st
        | none => .bad) ro H s Q → rIn K neg x y H Q := fun {c} ry hc q => by
      cases e2 : lsOf st c with
      | none => rw [e2] at q; exact q.elim
      | some es =>
        rw [e2] at q
        obtain ⟨a, ws, h1, h2, h3⟩ := ls_at rs ry e2
        cases e3 : flsD es with
        | none => simp only [Option.bind] at q; rw [e3] at q; exact q.elim
        | some vs =>
          simp only [Option.bind] at q
          rw [e3] at q
          exact go h3 e3 (.inl h2) h1 q
    cases dy with
    | tup es =>
      obtain ⟨a, ws, h1, h2, h3⟩ := tu_at ry
      cases e3 : flsD es with
      | none => simp only [e3] at p; exact p.elim
      | some vs =>
        simp only [e3] at p
        exact go h3 e3 (.inr h2) h1 p
    | _ => exact rest ry (fun ds z => by cases z) p
end
end Fx

namespace Fx
open PySem PySem.Spec PyProof.Rows L2

/-! ## subscripts, slices -/
def fIx (x i : D) (st : Sto) : R D := match i with
  | .int k => (match x with
    | .tup ds => (match atI ds k with
      | some d => .ok d st
      | none => .bad)
    | .str z => if sz z.length = true then (match atI z.cps.toList k with
        | some c => .ok (.str ⟨#[c]⟩) st
        | none => .bad) else .bad
    | x => (match (lsOf st x).bind fun ds => atI ds k with
      | some d => .ok d st
      | none => .bad))
  | _ => .bad
def cutD {α : Type} (xs : List α) (lo hi : Option Int) : List α := (xs.drop (HT.sIx xs.length 0 lo)).take (HT.sIx xs.length xs.length hi - HT.sIx xs.length 0 lo)
def fSl (x : D) (lo hi : Option Int) (st : Sto) : R D := match x with
  | .tup ds => .ok (.tup (cutD ds lo hi)) st
  | .str z => if sz z.length = true then .ok (.str (cutS z lo hi)) st else .bad
  | x => (match lsOf st x with
    | some ds => .ok (.lst (cutD ds lo hi)) st
    | none => .bad)
abbrev MO_ := SEnv → Sto → R (Option Int)
def oNone : SEnv → Sto → R (Option Int) := fun _ st => .ok none st
def oSome (m : ME) : SEnv → Sto → R (Option Int) := fun env st => (m env st).bind fun d st1 => match d with
  | .int i => .ok (some i) st1
  | _ => .bad
def eSl (m : ME) (ml mh : SEnv → Sto → R (Option Int)) : ME := fun env st => (m env st).bind fun x st1 => (ml env st1).bind fun lo st2 => (mh env st2).bind fun hi st3 => fSl x lo hi st3
def eRev (m : ME) : ME := fun env st => (m env st).bind fun x st1 => match lsOf st1 x with
  | some ds => .ok (.lst ds.reverse) st1
  | none => .bad
section
variable {X : Cx} {cn : CN} {K : PySem.W.Frag} {W : WX} {Ex : Addr → Prop} {cl : Bool} {r : List Addr} {H : Hp} {st : Sto} {pos p2 : Pos} {a b : Expr} {ma mb : ME}
theorem o2_ix : Op2 K cn (rIx K) fIx := by
  intro W Ex ro st H s x y dx dy Q xo rs rx ry p
  cases dy with
  | int k =>
    cases ry
    have rest : ∀ {c : D}, RD K ro H Ex x c → PostE K cn W Ex (match (lsOf st c).bind fun ds => atI ds k with
        | some d => .ok d st
        | none => .bad) ro H s Q → rIx K x (.int k) H Q := fun {c} rx q => by
      cases e2 : lsOf st c with
      | none => rw [e2] at q; exact q.elim
      | some es =>
        rw [e2] at q
        simp only [Option.bind] at q
        obtain ⟨a, ws, h1, h2, h3⟩ := ls_at rs rx e2
        cases e3 : atI es k with
        | none => rw [e3] at q; exact q.elim
        | some d =>
          rw [e3] at q
          obtain ⟨v, h4, h5⟩ := atI_rd h3 e3
          exact .inl ⟨a, ws, k, v, h1, rfl, h2, h4, PostE.here q rs h5⟩
    cases dx with
    | tup ds =>
      simp only [fIx] at p
      obtain ⟨a, ws, h1, h2, h3⟩ := tu_at rx
      cases e3 : atI ds k with
      | none => rw [e3] at p; exact p.elim
      | some d =>
        rw [e3] at p
        obtain ⟨v, h4, h5⟩ := atI_rd h3 e3
        exact .inr (.inl ⟨a, ws, k, v, h1, rfl, h2, h4, PostE.here p rs h5⟩)
    | str z =>
      simp only [fIx] at p
      cases rx
      by_cases hz : sz z.length = true
      · rw [if_pos hz] at p
        cases e3 : atI z.cps.toList k with
        | none => rw [e3] at p; exact p.elim
        | some c =>
          rw [e3] at p
          exact .inr (.inr ⟨z, k, c, rfl, rfl, sz_ok hz, e3, PostE.here p rs (.str _)⟩)
      · rw [if_neg hz] at p; exact p.elim
    | _ => exact rest rx p
  | _ => exact p.elim
theorem se_ix (ha : SndE X cn W cl a ma) (hb : SndE X cn W cl b mb) (hs : PlainIx b) : SndE X cn W cl (.Subscript a b pos) (eBin fIx ma mb) := pe_imp (pe_ix ix_seq ha hb hs) (tM_bin o2_ix)
theorem RDs.cut {vs : List V} {ds : List D} (h : RDs K r H Ex vs ds) (lo hi : Option Int) : RDs K r H Ex (cutV vs lo hi) (cutD ds lo hi) := by
  unfold cutV cutD
  rw [h.length]
  exact (h.drop _).take _
def rSlAll (K : PySem.W.Frag) : V → Option Int → Option Int → Hp → VK → Prop := fun x lo hi H Q => rSlA K x lo hi H Q ∨ rSlL K x lo hi H Q ∨ (∃ z, x = .str z ∧ z.length ≤ sizeLine ∧ Q (.str (cutS z lo hi)) H)
theorem sl_strQ : SlR X (fun x lo hi H Q => ∃ z, x = .str z ∧ z.length ≤ sizeLine ∧ Q (.str (cutS z lo hi)) H) := sl_str
theorem sl_all : SlR X (rSlAll X.K) := sl_tupA.or (sl_list.or sl_strQ)
theorem slice_rel {x : V} {d : D} {lo hi : Option Int} {s : L2.St} {Q : VK} (xo : ExO Ex H) (rs : RelSt K cn r st H) (rx : RD K r H Ex x d) (p : PostE K cn W Ex (fSl d lo hi st) r H s Q) : rSlAll K x lo hi H Q := by
  have rest : ∀ {c : D}, RD K r H Ex x c → PostE K cn W Ex (match lsOf st c with
      | some ds => .ok (.lst (cutD ds lo hi)) st
      | none => .bad) r H s Q → rSlAll K x lo hi H Q := fun {c} rx q => by
    cases e2 : lsOf st c with
    | none => rw [e2] at q; exact q.elim
    | some es =>
      rw [e2] at q
      obtain ⟨a, ws, h1, h2, h3⟩ := ls_at rs rx e2
      exact .inr (.inl ⟨a, ws, h1, h2, fun y hy => q r _ _ (Grow.lay hy) (rs.lay hy) (.lst upd_same (rs.out hy) (fun z => xo _ z hy) ((Grow.lay hy).rds (h3.cut lo hi)))⟩)
  cases d with
  | tup ds =>
    simp only [fSl] at p
    obtain ⟨a, ws, h1, h2, h3⟩ := tu_at rx
    refine .inl ⟨a, ws, h1, h2, fun ⟨e1, e2⟩ => ?_, fun _ y hy => p r _ _ (Grow.lay hy) (rs.lay hy) (.tup upd_same (rs.out hy) ((Grow.lay hy).rds (h3.cut lo hi)))⟩
    have : cutD ds lo hi = ds := by
      unfold cutD
      rw [← h3.length, e1, e2, List.drop_zero, Nat.sub_zero, h3.length, List.take_length]
    rw [this] at p
    rw [← h1]
    exact PostE.here p rs rx
  | str z =>
    simp only [fSl] at p
    cases rx
    by_cases hz : sz z.length = true
    · rw [if_pos hz] at p
      exact .inr (.inr ⟨z, rfl, sz_ok hz, PostE.here p rs (.str _)⟩)
    · rw [if_neg hz] at p; exact p.elim
  | _ => exact rest rx p
/-- a part of a slice -/
def PostO (K : PySem.W.Frag) (cn : CN) (W : WX) (x : R (Option Int)) (r : List Addr) (H : Hp) (s : L2.St) (Q : Option Int → Hp → Prop) : Prop := match x with
  | .ok o st => ∀ r' H', Grow r H r' H' → RelSt K cn r' st H' → Q o H'
  | .exc c f st => ∀ r' H' cls dd, Grow r H r' H' → RelSt K cn r' st H' → ExR K cn r' H' c f cls dd → W cls dd s H'
  | .bad => False
def tMO (K : PySem.W.Frag) (cn : CN) (W : WX) (cl : Bool) (m : SEnv → Sto → R (Option Int)) : TO := fun s H Q => ∃ r env st Ex, At K cn cl Ex r st H env s ∧ PostO K cn W (m env st) r H s Q
abbrev SndO (X : Cx) (cn : CN) (W : WX) (cl : Bool) (e : Option Expr) (m : SEnv → Sto → R (Option Int)) : Prop := PO X e (tMO X.K cn W cl m)
theorem po_imp {X : Cx} {e : Option Expr} {t t' : TO} (h : PO X e t) (i : ∀ s H Q, t' s H Q → t s H Q) : PO X e t' := by
  refine ⟨?_⟩
  intro pins s σ H Q I q
  exact h.run pins s σ H Q I (i _ _ _ q)
theorem so_none : SndO X cn W cl none oNone := po_imp po_none fun s H Q ⟨r, env, st, Ex, at_, p⟩ => p r H Grow.refl at_.rs
theorem so_some (h : SndE X cn W cl a ma) : SndO X cn W cl (some a) (oSome ma) := po_imp (po_some h) fun s H Q ⟨r, env, st, Ex, at_, p⟩ => tM_at at_ (by
  unfold oSome at p
  cases e : ma env st with
  | ok d st1 =>
    rw [e] at p
    simp only [R.bind] at p
    cases d with
    | int i => exact fun r' v H' g rs' rd => by cases rd; exact ⟨i, rfl, p r' H' g rs'⟩
    | _ => exact p.elim
  | exc c f st1 => rw [e] at p; exact p
  | bad => rw [e] at p; exact p)
theorem PostO.step {x : R (Option Int)} {k : Option Int → Sto → R D} {s : L2.St} {Q : VK} (p : PostE K cn W Ex (x.bind k) r H s Q) : PostO K cn W x r H s fun o H1 => ∃ r1 st1, Grow r H r1 H1 ∧ RelSt K cn r1 st1 H1 ∧ PostE K cn W Ex (k o st1) r1 H1 s Q := by
  cases x with
  | ok d st => exact fun r2 H2 g2 rs => ⟨r2, st, g2, rs, PostE.grow (x := k d st) p g2⟩
  | exc c f st => exact p
  | bad => exact p
theorem PostO.mono {x : R (Option Int)} {s : L2.St} {Q Q' : Option Int → Hp → Prop} (p : PostO K cn W x r H s Q) (h : ∀ v H', Q v H' → Q' v H') : PostO K cn W x r H s Q' := by
  cases x with
  | ok d st => exact fun r2 H2 g rs => h _ _ (p r2 H2 g rs)
  | exc c f st => exact p
  | bad => exact p
theorem se_sl {lo hi : Option Expr} {ml mh : SEnv → Sto → R (Option Int)} (ha : SndE X cn W cl a ma) (hl : SndO X cn W cl lo ml) (hh : SndO X cn W cl hi mh) : SndE X cn W cl (.Subscript a (.Slice lo hi none p2) pos) (eSl ma ml mh) := pe_imp (pe_slice sl_all ha hl hh) fun s H Q ⟨r, env, st, Ex, at_, p⟩ =>
  tM_at at_ ((PostE.bind p).mono fun x H1 ⟨r1, d1, st1, g1, rs1, rd1, p1⟩ => ⟨r1, env, st1, Ex, at_.grow g1 rs1, (PostO.step p1).mono fun lo H2 ⟨r2, st2, g2, rs2, p2⟩ => ⟨r2, env, st2, Ex, (at_.grow g1 rs1).grow g2 rs2, (PostO.step p2).mono fun hi H3 ⟨r3, st3, g3, rs3, p3⟩ =>
    slice_rel (((at_.grow g1 rs1).grow g2 rs2).grow g3 rs3).xo rs3 ((g2.trans g3).rd rd1) p3⟩⟩)
theorem se_rev {k : Nat} {q1 q2 q3 : Pos} (ha : SndE X cn W cl a ma) : SndE X cn W cl (.Subscript a (.Slice none none (some (.UnaryOp .USub (.Constant (.int 1) k q1) q2)) q3) pos) (eRev ma) := pe_imp (pe_revL ha) fun s H Q ⟨r, env, st, Ex, at_, p⟩ =>
  tM_at at_ ((PostE.bind p).mono fun x H1 ⟨r1, d1, st1, g1, rs1, rd1, p1⟩ => by
    cases e2 : lsOf st1 d1 with
    | none => rw [e2] at p1; exact p1.elim
    | some es =>
      rw [e2] at p1
      obtain ⟨a, ws, h1, h2, h3⟩ := ls_at rs1 rd1 e2
      exact ⟨a, ws, h1, h2, fun y hy => p1 r1 _ _ (Grow.lay hy) (rs1.lay hy) (.lst upd_same (rs1.out hy) (fun z => (at_.grow g1 rs1).xo _ z hy) ((Grow.lay hy).rds h3.reverse))⟩)
end

/-! ## built-ins of one value -/
def fLen (d : D) (st : Sto) : R D := match d with
  | .tup ds => .ok (.int ds.length) st
  | .str z => if sz z.length = true then .ok (.int z.length) st else .bad
  | d => (match lsOf st d with
    | some ds => .ok (.int ds.length) st
    | none => .bad)
def fInt (d : D) (st : Sto) : R D := match d with
  | .int i => .ok (.int i) st
  | .bl b => .ok (.int (if b then 1 else 0)) st
  | _ => .bad
def fListOf (d : D) (st : Sto) : R D := match d with
  | .tup ds => .ok (.lst ds) st
  | d => (match lsOf st d with
    | some ds => .ok (.lst ds) st
    | none => .bad)
def fTupOf (d : D) (st : Sto) : R D := match d with
  | .tup ds => .ok (.tup ds) st
  | d => (match lsOf st d with
    | some ds => .ok (.tup ds) st
    | none => .bad)
def blsD : List D → Option (List Bool)
  | [] => some []
  | .bl b :: ds => (blsD ds).map (b :: ·)
  | _ => none
def intsD : List D → Option (List Int)
  | [] => some []
  | .int b :: ds => (intsD ds).map (b :: ·)
  | _ => none
def fAll (d : D) (st : Sto) : R D := match (lsOf st d).bind blsD with
  | some bs => .ok (.bl (bs.all id)) st
  | none => .bad
def fAny (d : D) (st : Sto) : R D := match (lsOf st d).bind blsD with
  | some bs => .ok (.bl (bs.any id)) st
  | none => .bad
def fSum (d : D) (st : Sto) : R D := match (lsOf st d).bind intsD with
  | some ns => .ok (.int ns.sum) st
  | none => .bad
def fAbs (d : D) (st : Sto) : R D := match d with
  | .int i => .ok (.int (if i < 0 then -i else i)) st
  | _ => .bad
def fMax2 : D → D → Sto → R D
  | .int i, .int j, st => .ok (.int (if j > i then j else i)) st
  | _, _, _ => .bad
def fMin2 : D → D → Sto → R D
  | .int i, .int j, st => .ok (.int (if j < i then j else i)) st
  | _, _, _ => .bad
/-- a call's rule by values, from the function -/
def OpC (K : PySem.W.Frag) (cn : CN) (r : List V → Hp → VK → Prop) (f : List D → Sto → R D) : Prop :=
  ∀ (W : WX) (Ex : Addr → Prop) (ro : List Addr) (st : Sto) (H : Hp) (s : L2.St) (xs : List V) (ds : List D) (Q : VK), ExO Ex H → RelSt K cn ro st H → RDs K ro H Ex xs ds → PostE K cn W Ex (f ds st) ro H s Q → r xs H Q
def fOne (f : D → Sto → R D) : List D → Sto → R D
  | [d], st => f d st
  | _, _ => .bad
def fTwo (f : D → D → Sto → R D) : List D → Sto → R D
  | [d, e], st => f d e st
  | _, _ => .bad
section
variable {X : Cx} {cn : CN} {K : PySem.W.Frag} {W : WX} {Ex : Addr → Prop} {cl : Bool} {x : Str} {p pos : Pos} {a e : Expr} {es : List Expr} {ma : MA} {r : List V → Hp → VK → Prop} {f : List D → Sto → R D} {id T : String}
theorem tM_callB (h : OpC X.K cn r f) : ∀ s H Q, tM X.K cn W cl (eCall f ma) s H Q → tCB r (tMA X.K cn W cl ma) s H Q := fun s H Q ⟨ro, env, st, Ex, at_, p⟩ =>
  tMA_at at_ ((PostE.bindA p).mono fun xs H1 ⟨r1, ds, st1, g1, rs1, rd1, p1⟩ => h W Ex r1 st1 H1 s xs ds Q (at_.grow g1 rs1).xo rs1 rd1 p1)
theorem se_callB (hc : CallR X (.builtin id) r) (h : OpC X.K cn r f) (hg : Gl X x) (hm : X.mg x = none) (hv : bootBuiltins x = some (.builtin id)) (ha : SndA X cn W cl (e :: es) ma) (hn : x ≠ "__name__" := by decide) (hdb : (x == ("__debug__" : Str)) = false := by decide)
    (he : starEach (e :: es) X.env = (false, eval e X.env) :: starEach es X.env := by rfl) (hpl : (backTo pos (starEach es X.env)).any (·.1) = false := by rfl) : SndE X cn W cl (.Call (.Name x p) (e :: es) [] pos) (eCall f ma) := pe_imp (pe_callB hc hg hm hv ha hn hdb he hpl) (tM_callB h)
theorem se_callTy (hc : CallR X (.type T) r) (h : OpC X.K cn r f) (hg : Gl X x) (hm : X.mg x = none) (hv : bootBuiltins x = some (.type T)) (ha : SndA X cn W cl (e :: es) ma) (hn : x ≠ "__name__" := by decide) (hdb : (x == ("__debug__" : Str)) = false := by decide)
    (he : starEach (e :: es) X.env = (false, eval e X.env) :: starEach es X.env := by rfl) (hpl : (backTo pos (starEach es X.env)).any (·.1) = false := by rfl) : SndE X cn W cl (.Call (.Name x p) (e :: es) [] pos) (eCall f ma) := pe_imp (pe_callTy hc hg hm hv ha hn hdb he hpl) (tM_callB h)
theorem oc_one {f : D → Sto → R D} (h : ∀ (W : WX) (Ex : Addr → Prop) (ro : List Addr) (st : Sto) (H : Hp) (s : L2.St) (x : V) (d : D) (Q : VK), ExO Ex H → RelSt K cn ro st H → RD K ro H Ex x d → PostE K cn W Ex (f d st) ro H s Q → r [x] H Q) : OpC K cn r (fOne f) := by
  intro W Ex ro st H s xs ds Q xo rs rd p
  match ds, xs, rd with
  | [], _, _ => exact p.elim
  | [d], _, .cons h1 .nil => exact h W Ex ro st H s _ d Q xo rs h1 p
  | _ :: _ :: _, _, _ => exact p.elim
theorem oc_two {f : D → D → Sto → R D} (h : ∀ (W : WX) (Ex : Addr → Prop) (ro : List Addr) (st : Sto) (H : Hp) (s : L2.St) (x y : V) (d e : D) (Q : VK), ExO Ex H → RelSt K cn ro st H → RD K ro H Ex x d → RD K ro H Ex y e → PostE K cn W Ex (f d e st) ro H s Q → r [x, y] H Q) : OpC K cn r (fTwo f) := by
  intro W Ex ro st H s xs ds Q xo rs rd p
  match ds, xs, rd with
  | [], _, _ => exact p.elim
  | [_], _, _ => exact p.elim
  | [d, e], _, .cons h1 (.cons h2 .nil) => exact h W Ex ro st H s _ _ d e Q xo rs h1 h2 p
  | _ :: _ :: _ :: _, _, _ => exact p.elim
def rLenA (K : PySem.W.Frag) : List V → Hp → VK → Prop := fun xs H Q => (∃ p ys, xs = [.ref p] ∧ (SqL K H p ys ∨ SqT K H p ys) ∧ Q (.int ys.length) H) ∨ ∃ z, xs = [.str z] ∧ z.length ≤ sizeLine ∧ Q (.int z.length) H
theorem call_lenA : CallR X (.builtin "len") (rLenA X.K) := call_len_seq.or call_len_str
theorem oc_len : OpC K cn (rLenA K) (fOne fLen) := oc_one fun W Ex ro st H s x d Q xo rs rx p => by
  have rest : ∀ {c : D}, RD K ro H Ex x c → PostE K cn W Ex (match lsOf st c with
      | some ds => .ok (.int ds.length) st
      | none => .bad) ro H s Q → rLenA K [x] H Q := fun {c} rx q => by
    cases e2 : lsOf st c with
    | none => rw [e2] at q; exact q.elim
    | some es =>
      rw [e2] at q
      obtain ⟨a, ws, h1, h2, h3⟩ := ls_at rs rx e2
      exact .inl ⟨a, ws, by rw [h1], .inl h2, by rw [h3.length]; exact PostE.here q rs (.int _)⟩
  cases d with
  | tup ds =>
    obtain ⟨a, ws, h1, h2, h3⟩ := tu_at rx
    exact .inl ⟨a, ws, by rw [h1], .inr h2, by rw [h3.length]; exact PostE.here p rs (.int _)⟩
  | str z =>
    cases rx
    simp only [fLen] at p
    by_cases hz : sz z.length = true
    · rw [if_pos hz] at p
      exact .inr ⟨z, rfl, sz_ok hz, PostE.here p rs (.int _)⟩
    · rw [if_neg hz] at p; exact p.elim
  | _ => exact rest rx p
theorem oc_int : OpC K cn (fun xs H Q => (∃ i, xs = [.int i] ∧ Q (.int i) H) ∨ ∃ k, xs = [.bl k] ∧ Q (.int (if k then 1 else 0)) H) (fOne fInt) := oc_one fun W Ex ro st H s x d Q xo rs rx p => by
  cases d with
  | int i => cases rx; exact .inl ⟨i, rfl, PostE.here p rs (.int _)⟩
  | bl b => cases rx; exact .inr ⟨b, rfl, PostE.here p rs (.int _)⟩
  | _ => exact p.elim
theorem oc_abs : OpC K cn (fun xs H Q => ∃ i, xs = [.int i] ∧ Q (.int (if i < 0 then -i else i)) H) (fOne fAbs) := oc_one fun W Ex ro st H s x d Q xo rs rx p => by
  cases d with
  | int i => cases rx; exact ⟨i, rfl, PostE.here p rs (.int _)⟩
  | _ => exact p.elim
theorem oc_max2 : OpC K cn (fun xs H Q => ∃ i j, xs = [.int i, .int j] ∧ Q (.int (if j > i then j else i)) H) (fTwo fMax2) := oc_two fun W Ex ro st H s x y d e Q xo rs rx ry p => by
  cases d with
  | int i =>
    cases e with
    | int j => cases rx; cases ry; exact ⟨i, j, rfl, PostE.here p rs (.int _)⟩
    | _ => exact p.elim
  | _ => exact p.elim
theorem oc_min2 : OpC K cn (fun xs H Q => ∃ i j, xs = [.int i, .int j] ∧ Q (.int (if j < i then j else i)) H) (fTwo fMin2) := oc_two fun W Ex ro st H s x y d e Q xo rs rx ry p => by
  cases d with
  | int i =>
    cases e with
    | int j => cases rx; cases ry; exact ⟨i, j, rfl, PostE.here p rs (.int _)⟩
    | _ => exact p.elim
  | _ => exact p.elim
theorem oc_list : OpC K cn (fun xs H Q => ∃ p ys, xs = [.ref p] ∧ (SqL K H p ys ∨ SqT K H p ys) ∧ ∀ l, H l = none → Q (.ref l) (upd H l (.lst ys))) (fOne fListOf) := oc_one fun W Ex ro st H s x d Q xo rs rx p => by
  have fin : ∀ {a ws es}, (SqL K H a ws ∨ SqT K H a ws) → x = .ref a → RDs K ro H Ex ws es → PostE K cn W Ex (.ok (.lst es) st) ro H s Q → ∃ p ys, [x] = [.ref p] ∧ (SqL K H p ys ∨ SqT K H p ys) ∧ ∀ l, H l = none → Q (.ref l) (upd H l (.lst ys)) := fun {a ws es} h h1 h3 q =>
    ⟨a, ws, by rw [h1], h, fun l hl => q ro _ _ (Grow.lay hl) (rs.lay hl) (.lst upd_same (rs.out hl) (fun z => xo _ z hl) ((Grow.lay hl).rds h3))⟩
  have rest : ∀ {c : D}, RD K ro H Ex x c → PostE K cn W Ex (match lsOf st c with
      | some ds => .ok (.lst ds) st
      | none => .bad) ro H s Q → ∃ p ys, [x] = [.ref p] ∧ (SqL K H p ys ∨ SqT K H p ys) ∧ ∀ l, H l = none → Q (.ref l) (upd H l (.lst ys)) := fun {c} rx q => by
    cases e2 : lsOf st c with
    | none => rw [e2] at q; exact q.elim
    | some es =>
      rw [e2] at q
      obtain ⟨a, ws, h1, h2, h3⟩ := ls_at rs rx e2
      exact fin (.inl h2) h1 h3 q
  cases d with
  | tup ds =>
    obtain ⟨a, ws, h1, h2, h3⟩ := tu_at rx
    exact fin (.inr h2) h1 h3 p
  | _ => exact rest rx p
theorem oc_tuple : OpC K cn (fun xs H Q => ∃ p ys, xs = [.ref p] ∧ ((SqL K H p ys ∧ ∀ l, H l = none → Q (.ref l) (upd H l (.tup ys))) ∨ (SqT K H p ys ∧ Q (.ref p) H))) (fOne fTupOf) := oc_one fun W Ex ro st H s x d Q xo rs rx p => by
  have rest : ∀ {c : D}, RD K ro H Ex x c → PostE K cn W Ex (match lsOf st c with
      | some ds => .ok (.tup ds) st
      | none => .bad) ro H s Q → ∃ p ys, [x] = [.ref p] ∧ ((SqL K H p ys ∧ ∀ l, H l = none → Q (.ref l) (upd H l (.tup ys))) ∨ (SqT K H p ys ∧ Q (.ref p) H)) := fun {c} rx q => by
    cases e2 : lsOf st c with
    | none => rw [e2] at q; exact q.elim
    | some es =>
      rw [e2] at q
      obtain ⟨a, ws, h1, h2, h3⟩ := ls_at rs rx e2
      exact ⟨a, ws, by rw [h1], .inl ⟨h2, fun l hl => q ro _ _ (Grow.lay hl) (rs.lay hl) (.tup upd_same (rs.out hl) ((Grow.lay hl).rds h3))⟩⟩
  cases d with
  | tup ds =>
    obtain ⟨a, ws, h1, h2, h3⟩ := tu_at rx
    refine ⟨a, ws, by rw [h1], .inr ⟨h2, ?_⟩⟩
    rw [← h1]
    exact PostE.here p rs rx
  | _ => exact rest rx p
theorem bls_rel : ∀ {ds : List D} {bs : List Bool}, blsD ds = some bs → ds = bs.map D.bl
  | [], _, h => by cases h; rfl
  | .bl b :: ds, bs, h => by
    unfold blsD at h
    cases e : blsD ds with
    | none => rw [e] at h; cases h
    | some cs => rw [e] at h; cases h; rw [bls_rel e]; rfl
  | .non :: _, _, h => by cases h
  | .int _ :: _, _, h => by cases h
  | .str _ :: _, _, h => by cases h
  | .tup _ :: _, _, h => by cases h
  | .lst _ :: _, _, h => by cases h
  | .dK _ _ :: _, _, h => by cases h
  | .dT _ _ :: _, _, h => by cases h
  | .obj _ :: _, _, h => by cases h
  | .err _ :: _, _, h => by cases h
  | .scr _ :: _, _, h => by cases h
theorem ints_rel : ∀ {ds : List D} {bs : List Int}, intsD ds = some bs → ds = bs.map D.int
  | [], _, h => by cases h; rfl
  | .int b :: ds, bs, h => by
    unfold intsD at h
    cases e : intsD ds with
    | none => rw [e] at h; cases h
    | some cs => rw [e] at h; cases h; rw [ints_rel e]; rfl
  | .non :: _, _, h => by cases h
  | .bl _ :: _, _, h => by cases h
  | .str _ :: _, _, h => by cases h
  | .tup _ :: _, _, h => by cases h
  | .lst _ :: _, _, h => by cases h
  | .dK _ _ :: _, _, h => by cases h
  | .dT _ _ :: _, _, h => by cases h
  | .obj _ :: _, _, h => by cases h
  | .err _ :: _, _, h => by cases h
  | .scr _ :: _, _, h => by cases h
theorem oc_bls {g : List Bool → Bool} : OpC K cn (fun vs H Q => ∃ (a : Addr) (bs : List Bool), vs = [V.ref a] ∧ SqL K H a (bs.map V.bl) ∧ Q (.bl (g bs)) H) (fOne fun d st => match (lsOf st d).bind blsD with
    | some bs => .ok (.bl (g bs)) st
    | none => .bad) := oc_one fun W Ex ro st H s x d Q xo rs rx p => by
  cases e2 : lsOf st d with
  | none => rw [e2] at p; exact p.elim
  | some es =>
    rw [e2] at p
    simp only [Option.bind] at p
    cases e3 : blsD es with
    | none => rw [e3] at p; exact p.elim
    | some bs =>
      rw [e3] at p
      obtain ⟨a, ws, h1, h2, h3⟩ := ls_at rs rx e2
      rw [bls_rel e3] at h3
      rw [h3.bls] at h2
      exact ⟨a, bs, by rw [h1], h2, PostE.here p rs (.bl _)⟩
theorem oc_all : OpC K cn (rAll K) (fOne fAll) := oc_bls (g := fun bs => bs.all id)
theorem oc_any : OpC K cn (rAny K) (fOne fAny) := oc_bls (g := fun bs => bs.any id)
theorem oc_sum : OpC K cn (rSum K) (fOne fSum) := oc_one fun W Ex ro st H s x d Q xo rs rx p => by
  unfold fSum at p
  cases e2 : lsOf st d with
  | none => rw [e2] at p; exact p.elim
  | some es =>
    rw [e2] at p
    simp only [Option.bind] at p
    cases e3 : intsD es with
    | none => rw [e3] at p; exact p.elim
    | some bs =>
      rw [e3] at p
      obtain ⟨a, ws, h1, h2, h3⟩ := ls_at rs rx e2
      rw [ints_rel e3] at h3
      rw [h3.ints] at h2
      exact ⟨a, bs, by rw [h1], h2, PostE.here p rs (.int _)⟩
end

/-! ## isinstance -/
def bty : D → Sto → Option String
  | .non, _ => some "NoneType"
  | .bl _, _ => some "bool"
  | .int _, _ => some "int"
  | .str _, _ => some "str"
  | .tup _, _ => some "tuple"
  | .lst _, _ => some "list"
  | .dK _ _, _ => some "dict"
  | .dT _ _, _ => some "dict"
  | .obj n, st => match st[n]? with
    | some (.lst _) => some "list"
    | some (.dK _ _) => some "dict"
    | some (.dT _ _) => some "dict"
    | _ => none
  | _, _ => none
/-- the class of an instance -/
def cty : D → Sto → Option Nat
  | .obj n, st => match st[n]? with
    | some (.ins c _) => some c
    | _ => none
  | _, _ => none
structure Cfg where
  cn : CN
  sub : Nat → Nat → Option Bool
  esub : Str → Nat → Option Bool
def bNames : List String := ["NoneType", "bool", "int", "str", "tuple", "list", "dict"]
/-- what the written part must say of the classes -/
structure KF (K : PySem.W.Frag) (g : Cfg) : Prop where
  ins : ∀ c k b, g.sub c k = some b → Cls K (ca K g.cn c) ∧ PySem.W.findIn K (.ref (ca K g.cn c)) "__class__" = some (some (.builtin "object.__class__")) ∧ PySem.W.specialIn K (.builtin "object.__class__") "__get__" = some (some (.builtin "getset_descriptor.__get__")) ∧
    PySem.W.takesIn K (.builtin "object.__class__") = some true ∧ PySem.W.mroIn K (ca K g.cn c) (.type "object") = some true ∧ PySem.W.kitOne K (.ref (ca K g.cn c)) (.ref (ca K g.cn k)) = some b
  bt : ∀ k, (g.sub k k).isSome = true → ∀ t, t ∈ bNames → PySem.W.kitOne K (.ref (ca K g.cn k)) (.type t) = some false ∧ PySem.W.kitOne K (.type t) (.ref (ca K g.cn k)) = some false
  exc : ∀ x k b, g.esub x k = some b → ExcC K (He.ga K x) ∧ PySem.W.kitOne K (.ref (He.ga K x)) (.ref (ca K g.cn k)) = some b ∧ ∀ t, t ∈ bNames → PySem.W.kitOne K (.ref (He.ga K x)) (.type t) = some false
def isB (t : String) (a : String) : Bool := a == t || (a == "bool" && t == "int")
def fIsB (g : Cfg) (t : String) (d : D) (st : Sto) : R D := match d with
  | .err x => if (g.esub x 0).isSome = true then .ok (.bl false) st else .bad
  | d => match bty d st with
    | some a => .ok (.bl (isB t a)) st
    | none => match cty d st with
      | some c => if (g.sub c c).isSome = true then .ok (.bl false) st else .bad
      | none => .bad
def fIsC (g : Cfg) (k : Nat) (d : D) (st : Sto) : R D := match d with
  | .err x => (match g.esub x k with
    | some b => .ok (.bl b) st
    | none => .bad)
  | d => match cty d st with
    | some c => (match g.sub c k with
      | some b => .ok (.bl b) st
      | none => .bad)
    | none => match bty d st with
      | some _ => if (g.sub k k).isSome = true then .ok (.bl false) st else .bad
      | none => .bad
/-- isinstance, exception objects too -/
def rIsX (K : PySem.W.Frag) : List V → Hp → VK → Prop := fun xs H Q => rIsi K xs H Q ∨ ∃ (a D : Addr) (c : V) (cv : Value) (b : Bool), xs = [.ref a, c] ∧ H a = some (L2.ExO (.ref D) a) ∧ ExcC K D ∧ ClsV c cv ∧ PySem.W.kitOne K (.ref D) cv = some b ∧ Q (.bl b) H
theorem call_isX {X : Cx} : CallR X (.builtin "isinstance") (rIsX X.K) := by
  intro pins s σ H xs us Q I r h
  rcases h with h | ⟨a, D, c, cv, b, rfl, ha, C, k, e, q⟩
  · exact call_isi pins s σ H xs us Q I r h
  · obtain ⟨u1, u2, rfl, r1, r2⟩ := vals2 r
    have e2 := k.eq r2
    subst e2
    cases (show u1 = Value.ref a from r1)
    obtain ⟨⟨oe, vs, ho, hz, hv, _⟩, _, _⟩ := I.hok a _ ha
    have J : PySem.W.InstAt s.heap a oe D none := by
      obtain ⟨oc, od, oda, osl⟩ := oe
      obtain ⟨h1, h2⟩ := hz
      dsimp only at h1 h2 hv
      subst h1 h2 hv
      exact ⟨ho, rfl, rfl, trivial⟩
    exact PySem.W.kia_one (PySem.W.handS_kitx_exc C.hg C.hk C.hs C.hd C.ha C.hn C.ht C.hm) I.kIn J e (fun z => nomatch z) fun tk => ⟨.bl b, H, I.kept (t' := tk) fun _ _ z => z, rfl, q⟩
section
variable {X : Cx} {g : Cfg} {K : PySem.W.Frag} {W : WX} {Ex : Addr → Prop} {cl : Bool} {r : List Addr} {H : Hp} {st : Sto} {v : V} {d : D}
theorem bty_rel {n : String} (rs : RelSt K g.cn r st H) (rd : RD K r H Ex v d) (h : bty d st = some n) : n ∈ bNames ∧ TyX K H v (.type n) := by
  cases rd with
  | non => cases h; exact ⟨by decide, .base .non⟩
  | bl b => cases h; exact ⟨by decide, .base (.bl b)⟩
  | int i => cases h; exact ⟨by decide, .base (.int i)⟩
  | str i => cases h; exact ⟨by decide, .base (.str i)⟩
  | tup h1 hn hs =>
    cases h
    exact ⟨by decide, .base (.tup h1)⟩
  | tupK h1 hs => cases h; obtain ⟨o, its, n, h1, h2, _⟩ := h1; exact ⟨by decide, .kTuple h1 h2⟩
  | lst h1 hn hx hs => cases h; exact ⟨by decide, .base (.lst h1)⟩
  | dK h1 hl hn hx hs => cases h; exact ⟨by decide, .base (.dK h1)⟩
  | dT h1 hl hn hx hs => cases h; exact ⟨by decide, .base (.dT h1)⟩
  | scr h1 hn hx => cases h
  | scrK h1 => cases h
  | err h1 hn => cases h
  | obj hr =>
    simp only [bty] at h
    split at h
    · rename_i ds e; cases h; obtain ⟨vs, h1, _⟩ := rs.ok _ _ _ e hr; exact ⟨by decide, .base (.lst h1)⟩
    · rename_i ds es e; cases h; obtain ⟨vs, h1, _⟩ := rs.ok _ _ _ e hr; exact ⟨by decide, .base (.dK h1)⟩
    · rename_i ds es e; cases h; obtain ⟨vs, h1, _⟩ := rs.ok _ _ _ e hr; exact ⟨by decide, .base (.dT h1)⟩
    · cases h
theorem cty_at {c : Nat} (rs : RelSt K g.cn r st H) (rd : RD K r H Ex v d) (h : cty d st = some c) : ∃ a dx fs, v = .ref a ∧ H a = some (.ins (ca K g.cn c) dx fs) := by
  cases rd with
  | obj hr =>
    simp only [cty] at h
    split at h
    · rename_i c2 fs e; cases h; obtain ⟨dx, vs, h1, _⟩ := rs.ok _ _ _ e hr; exact ⟨_, dx, _, rfl, h1⟩
    · cases h
  | _ => cases h
theorem cty_rel {c k : Nat} {b : Bool} (F : KF K g) (rs : RelSt K g.cn r st H) (rd : RD K r H Ex v d) (h : cty d st = some c) (hs : g.sub c k = some b) : TyX K H v (.ref (ca K g.cn c)) := by
  obtain ⟨a, dx, fs, rfl, h1⟩ := cty_at rs rd h
  obtain ⟨f1, f2, f3, f4, f5, _⟩ := F.ins c k b hs
  exact .base (.ins h1 f1 f2 f3 f4 f5)
theorem kitB_is : ∀ a ∈ bNames, ∀ t ∈ bNames, kitB a t = some (isB t a) := by decide +kernel
theorem oc_isB (F : KF K g) {t : String} (ht : t ∈ bNames) {c : V} (hc : c = .ty t) : ∀ (W : WX) (Ex : Addr → Prop) (ro : List Addr) (st : Sto) (H : Hp) (s : L2.St) (x : V) (d : D) (Q : VK), ExO Ex H → RelSt K g.cn ro st H → RD K ro H Ex x d → PostE K g.cn W Ex (fIsB g t d st) ro H s Q → rIsX K [x, c] H Q := by
  subst hc
  intro W Ex ro st H s x d Q xo rs rx p
  by_cases hd : ∃ y, d = .err y
  · obtain ⟨y, rfl⟩ := hd
    unfold fIsB at p
    simp only at p
    by_cases hz : (g.esub y 0).isSome = true
    · rw [if_pos hz] at p
      obtain ⟨b, hb⟩ := Option.isSome_iff_exists.mp hz
      obtain ⟨h1, _, h2⟩ := F.exc y 0 b hb
      cases rx with
      | err ha hn => exact .inr ⟨_, _, .ty t, _, false, rfl, ha, h1, .ty t, h2 t ht, PostE.here p rs (.bl _)⟩
    · rw [if_neg hz] at p; exact p.elim
  left
  have p : PostE K g.cn W Ex (match bty d st with
    | some a => .ok (.bl (isB t a)) st
    | none => match cty d st with
      | some c => if (g.sub c c).isSome = true then .ok (.bl false) st else .bad
      | none => .bad) ro H s Q := by
    unfold fIsB at p
    split at p
    · exact absurd ⟨_, rfl⟩ hd
    · exact p
  cases e : bty d st with
  | some a =>
    rw [e] at p
    obtain ⟨h1, h2⟩ := bty_rel rs rx e
    exact ⟨x, .ty t, _, _, _, rfl, .ty t, h2, kit_ty (kitB_is a h1 t ht), PostE.here p rs (.bl _)⟩
  | none =>
    rw [e] at p
    cases e2 : cty d st with
    | none => simp only [e2] at p; exact p.elim
    | some c =>
      simp only [e2] at p
      by_cases hz : (g.sub c c).isSome = true
      · rw [if_pos hz] at p
        obtain ⟨b, hb⟩ := Option.isSome_iff_exists.mp hz
        exact ⟨x, .ty t, _, _, _, rfl, .ty t, cty_rel F rs rx e2 hb, (F.bt c hz t ht).1, PostE.here p rs (.bl _)⟩
      · rw [if_neg hz] at p; exact p.elim
theorem oc_isC (F : KF K g) {k : Nat} {c : V} (hc : c = .ref (ca K g.cn k)) : ∀ (W : WX) (Ex : Addr → Prop) (ro : List Addr) (st : Sto) (H : Hp) (s : L2.St) (x : V) (d : D) (Q : VK), ExO Ex H → RelSt K g.cn ro st H → RD K ro H Ex x d → PostE K g.cn W Ex (fIsC g k d st) ro H s Q → rIsX K [x, c] H Q := by
  subst hc
  intro W Ex ro st H s x d Q xo rs rx p
  by_cases hd : ∃ y, d = .err y
  · obtain ⟨y, rfl⟩ := hd
    unfold fIsC at p
    simp only at p
    cases e3 : g.esub y k with
    | none => simp only [e3] at p; exact p.elim
    | some b =>
      simp only [e3] at p
      obtain ⟨h1, h2, _⟩ := F.exc y k b e3
      cases rx with
      | err ha hn => exact .inr ⟨_, _, _, _, b, rfl, ha, h1, .own _, h2, PostE.here p rs (.bl _)⟩
  left
  have p : PostE K g.cn W Ex (match cty d st with
    | some c => (match g.sub c k with
      | some b => .ok (.bl b) st
      | none => .bad)
    | none => match bty d st with
      | some _ => if (g.sub k k).isSome = true then .ok (.bl false) st else .bad
      | none => .bad) ro H s Q := by
    unfold fIsC at p
    split at p
    · exact absurd ⟨_, rfl⟩ hd
    · exact p
  cases e2 : cty d st with
  | some c =>
    rw [e2] at p
    cases e3 : g.sub c k with
    | none => simp only [e3] at p; exact p.elim
    | some b =>
      simp only [e3] at p
      exact ⟨x, _, _, _, _, rfl, .own _, cty_rel F rs rx e2 e3, (F.ins c k b e3).2.2.2.2.2, PostE.here p rs (.bl _)⟩
  | none =>
    rw [e2] at p
    cases e : bty d st with
    | none => simp only [e] at p; exact p.elim
    | some a =>
      simp only [e] at p
      by_cases hz : (g.sub k k).isSome = true
      · rw [if_pos hz] at p
        obtain ⟨h1, h2⟩ := bty_rel rs rx e
        exact ⟨x, _, _, _, _, rfl, .own _, h2, (F.bt k hz a h1).2, PostE.here p rs (.bl _)⟩
      · rw [if_neg hz] at p; exact p.elim
variable {x : Str} {p pos : Pos} {a c : Expr} {ma : ME}
theorem tM_isi {f : D → Sto → R D} {cv : V} {tc : TE} (htc : ∀ s H Q, Q cv H → tc s H Q) (h : ∀ (W : WX) (Ex : Addr → Prop) (ro : List Addr) (st : Sto) (H : Hp) (s : L2.St) (x : V) (d : D) (Q : VK), ExO Ex H → RelSt K g.cn ro st H → RD K ro H Ex x d → PostE K g.cn W Ex (f d st) ro H s Q → rIsX K [x, cv] H Q) :
    ∀ s H Q, tM K g.cn W cl (eUn f ma) s H Q → tCB (rIsX K) (tCons (tM K g.cn W cl ma) (tCons tc tNil)) s H Q := fun s H Q ⟨ro, env, st, Ex, at_, p⟩ =>
  tM_at at_ ((PostE.bind p).mono fun x H1 ⟨r1, d1, st1, g1, rs1, rd1, p1⟩ => htc _ _ _ (h W Ex r1 st1 H1 s x d1 Q (at_.grow g1 rs1).xo rs1 rd1 p1))
theorem se_isB (F : KF X.K g) {t : Str} {q : Pos} {n : String} (hg : Gl X "isinstance") (hm : X.mg "isinstance" = none) (ha : SndE X g.cn W cl a ma) (gt : Gl X t) (mt : X.mg t = none) (bt : bootBuiltins t = some (.type n)) (hn : n ∈ bNames) (h1 : t ≠ "__name__" := by decide) (h2 : (t == ("__debug__" : Str)) = false := by decide)
    (hs1 : starEach [a, .Name t q] X.env = (false, eval a X.env) :: starEach [.Name t q] X.env := by rfl) (hs2 : starEach [.Name t q] X.env = (false, eval (.Name t q) X.env) :: starEach [] X.env := by rfl) (hpl : (backTo pos (starEach [.Name t q] X.env)).any (·.1) = false := by rfl) : SndE X g.cn W cl (.Call (.Name "isinstance" p) [a, .Name t q] [] pos) (eUn (fIsB g n) ma) :=
  pe_imp (pe_callB call_isX hg hm (by decide +kernel) (pa_cons ha (pa_cons (pe_bltn gt mt bt (show RelV (.ty n) (.type n) from rfl) h1 h2) pa_nil hs2) hs1) (by decide) (by decide) hs1 hpl) (tM_isi (cv := .ty n) (fun _ _ _ q => q) (oc_isB F hn rfl))
theorem se_isC (F : KF X.K g) {t : Str} {q : Pos} {k : Nat} (hg : Gl X "isinstance") (hm : X.mg "isinstance" = none) (ha : SndE X g.cn W cl a ma) (gt : Gl X t) (mt : X.mg t = some (.ref (ca X.K g.cn k))) (h2 : (t == ("__debug__" : Str)) = false := by decide)
    (hs1 : starEach [a, .Name t q] X.env = (false, eval a X.env) :: starEach [.Name t q] X.env := by rfl) (hs2 : starEach [.Name t q] X.env = (false, eval (.Name t q) X.env) :: starEach [] X.env := by rfl) (hpl : (backTo pos (starEach [.Name t q] X.env)).any (·.1) = false := by rfl) : SndE X g.cn W cl (.Call (.Name "isinstance" p) [a, .Name t q] [] pos) (eUn (fIsC g k) ma) :=
  pe_imp (pe_callB call_isX hg hm (by decide +kernel) (pa_cons ha (pa_cons (pe_glob gt mt (show RelV (.ref (ca X.K g.cn k)) (.ref (ca X.K g.cn k)) from rfl) h2) pa_nil hs2) hs1) (by decide) (by decide) hs1 hpl) (tM_isi (cv := .ref (ca X.K g.cn k)) (fun _ _ _ q => q) (oc_isC F rfl))
end
end Fx

namespace Fx
open PySem PySem.Spec PyProof.Rows L2

/-! ## what is walked -/
structure Iter (K : PySem.W.Frag) (cn : CN) (Ex : Addr → Prop) (J : It) (r : List Addr) (H : Hp) (ds : List D) : Prop where
  go : ∀ i r' H' Ex', Kept r H Ex r' H' Ex' → i < ds.length → J.go i H'
  yld : ∀ i r' H' Ex' x H'' st', Kept r H Ex r' H' Ex' → RelSt K cn r' st' H' → J.yld i H' x H'' → i < ds.length → ∃ d, ds[i]? = some d ∧ Grow r' H' r' H'' ∧ RelSt K cn r' st' H'' ∧ RD K r' H'' Ex' x d
  stop : ∀ i r' H' Ex', Kept r H Ex r' H' Ex' → ds.length ≤ i → J.stop i H'
def PostI (K : PySem.W.Frag) (cn : CN) (W : WX) (Ex : Addr → Prop) (x : R (List D)) (r : List Addr) (H : Hp) (s : L2.St) (Q : It → Hp → Prop) : Prop := match x with
  | .ok ds st => ∀ r' H' J, Grow r H r' H' → RelSt K cn r' st H' → Iter K cn Ex J r' H' ds → Q J H'
  | .exc c f st => ∀ r' H' cls dd, Grow r H r' H' → RelSt K cn r' st H' → ExR K cn r' H' c f cls dd → W cls dd s H'
  | .bad => False
def tMI (K : PySem.W.Frag) (cn : CN) (W : WX) (cl : Bool) (m : MA) : TI := fun s H Q => ∃ r env st Ex, At K cn cl Ex r st H env s ∧ PostI K cn W Ex (m env st) r H s Q
abbrev SndI (X : Cx) (cn : CN) (W : WX) (cl : Bool) (tg e : Expr) (m : MA) : Prop := PI X tg e (tMI X.K cn W cl m)
theorem pi_imp {X : Cx} {tg e : Expr} {t t' : TI} (h : PI X tg e t) (i : ∀ s H Q, t' s H Q → t s H Q) : PI X tg e t' := ⟨fun pins s σ H Q I q => h.run pins s σ H Q I (i _ _ _ q)⟩
/-- the items of a list or tuple -/
def seqD (d : D) (st1 : Sto) : R (List D) := match d with
  | .tup ds => .ok ds st1
  | .lst ds => .ok ds st1
  | .scr ns => .ok (ns.map D.int) st1
  | _ => .bad
def itSeq (m : ME) : MA := fun env st => (m env st).bind seqD
def rngD (lo : Int) (n : Nat) : List D := (List.range n).map fun i => D.int (lo + (i : Nat))
def itR1 (m : ME) : MA := fun env st => (m env st).bind fun d st1 => match d with
  | .int n => if decide (n.natAbs < 100000) = true then .ok (rngD 0 n.toNat) st1 else .bad
  | _ => .bad
def itR2 (m1 m2 : ME) : MA := fun env st => (m1 env st).bind fun d st1 => (m2 env st1).bind fun e st2 => match d, e with
  | .int lo, .int hi => if (decide (lo.natAbs < 100000) && decide (hi.natAbs < 100000)) = true then .ok (rngD lo (hi - lo).toNat) st2 else .bad
  | _, _ => .bad
section
variable {X : Cx} {cn : CN} {K : PySem.W.Frag} {W : WX} {Ex : Addr → Prop} {cl : Bool} {r r' : List Addr} {H H' : Hp} {st : Sto} {tg e : Expr} {m : ME} {s : L2.St}
theorem PostI.grow {x : R (List D)} {Q : It → Hp → Prop} (p : PostI K cn W Ex x r H s Q) (g : Grow r H r' H') : PostI K cn W Ex x r' H' s Q := by
  cases x with
  | ok d st => exact fun r2 H2 J g2 => p r2 H2 J (g.trans g2)
  | exc c f st => exact fun r2 H2 cls dd g2 => p r2 H2 cls dd (g.trans g2)
  | bad => exact p
theorem PostI.bind {x : R D} {k : D → Sto → R (List D)} {Q : It → Hp → Prop} (p : PostI K cn W Ex (x.bind k) r H s Q) : PostE K cn W Ex x r H s fun v H1 => ∃ r1 d st1, Grow r H r1 H1 ∧ RelSt K cn r1 st1 H1 ∧ RD K r1 H1 Ex v d ∧ PostI K cn W Ex (k d st1) r1 H1 s Q := by
  cases x with
  | ok d st => exact fun r2 v H2 g2 rs rd => ⟨r2, d, st, g2, rs, rd, PostI.grow (x := k d st) p g2⟩
  | exc c f st => exact p
  | bad => exact p
theorem iter_sql {a : Addr} {vs : List V} {ds : List D} (sq : ∀ r' H' Ex', Kept r H Ex r' H' Ex' → SqL K H' a vs) (hs : RDs K r H Ex vs ds) : Iter K cn Ex (Itl K a) r H ds := by
  refine ⟨fun i r' H' Ex' k hi => ?_, fun i r' H' Ex' x H'' st' k rs y hi => ?_, fun i r' H' Ex' k hi => ⟨vs, sq _ _ _ k, by rw [hs.length]; exact hi⟩⟩
  · obtain ⟨v, h1, _⟩ := hs.get (List.getElem?_eq_getElem hi)
    exact ⟨vs, v, sq _ _ _ k, h1⟩
  · obtain ⟨rfl, y⟩ := y
    have h1 := y vs (sq _ _ _ k)
    obtain ⟨d, h2, h3⟩ := hs.getV h1
    exact ⟨d, h2, Grow.refl, rs, h3.kept k⟩
theorem iter_list {a : Addr} {vs : List V} {ds : List D} (h : Rd H a (.lst vs)) (hn : a ∉ r) (hx : ¬ Ex a) (hs : RDs K r H Ex vs ds) : Iter K cn Ex (Itl K a) r H ds := by
  have sq : ∀ {r' H' Ex'}, Kept r H Ex r' H' Ex' → SqL K H' a vs := fun {r' H' Ex'} k => .inl (k.rd h hn (fun z => absurd z hx)).1
  refine ⟨fun i r' H' Ex' k hi => ?_, fun i r' H' Ex' x H'' st' k rs y hi => ?_, fun i r' H' Ex' k hi => ⟨vs, sq k, by rw [hs.length]; exact hi⟩⟩
  · obtain ⟨v, h1, _⟩ := hs.get (List.getElem?_eq_getElem hi)
    exact ⟨vs, v, sq k, h1⟩
  · obtain ⟨rfl, y⟩ := y
    have h1 := y vs (sq k)
    obtain ⟨d, h2, h3⟩ := hs.getV h1
    exact ⟨d, h2, Grow.refl, rs, h3.kept k⟩
theorem iter_sqt {a : Addr} {vs : List V} {ds : List D} (sq : ∀ r' H' Ex', Kept r H Ex r' H' Ex' → SqT K H' a vs) (hs : RDs K r H Ex vs ds) : Iter K cn Ex (Itt K a) r H ds := by
  refine ⟨fun i r' H' Ex' k hi => ?_, fun i r' H' Ex' x H'' st' k rs y hi => ?_, fun i r' H' Ex' k hi => ⟨vs, sq _ _ _ k, by rw [hs.length]; exact hi⟩⟩
  · obtain ⟨v, h1, _⟩ := hs.get (List.getElem?_eq_getElem hi)
    exact ⟨vs, v, sq _ _ _ k, h1⟩
  · obtain ⟨rfl, y⟩ := y
    have h1 := y vs (sq _ _ _ k)
    obtain ⟨d, h2, h3⟩ := hs.getV h1
    exact ⟨d, h2, Grow.refl, rs, h3.kept k⟩
theorem iter_tup {v : V} {ds : List D} (rd : RD K r H Ex v (.tup ds)) : ∃ a vs, v = .ref a ∧ SqT K H a vs ∧ Iter K cn Ex (Itt K a) r H ds := by
  cases rd with
  | tup h hn hs => exact ⟨_, _, rfl, .inl (.inl h), iter_sqt (fun r' H' Ex' k => .inl (.inl (k.at_ h hn (fun _ xs e => by cases e)).1)) hs⟩
  | tupK h hs => exact ⟨_, _, rfl, .inr h, iter_sqt (fun r' H' Ex' k => .inr h) hs⟩
theorem iter_rng {lo : Int} {n : Nat} : Iter K cn Ex (Itr lo n) r H (rngD lo n) := by
  have hl : (rngD lo n).length = n := by simp [rngD]
  refine ⟨fun i r' H' Ex' k hi => by rw [hl] at hi; exact hi, fun i r' H' Ex' x H'' st' k rs y hi => ?_, fun i r' H' Ex' k hi => by rw [hl] at hi; exact hi⟩
  obtain ⟨rfl, rfl⟩ := y
  rw [hl] at hi
  exact ⟨.int (lo + i), by simp [rngD, hi], Grow.refl, rs, .int _⟩
theorem si_seq (he : SndE X cn W cl e m) : SndI X cn W cl tg e (itSeq m) := pi_imp (pi_or (pi_list he) (pi_tup he)) fun s H Q ⟨r, env, st, Ex, at_, p⟩ => by
  have p2 := PostI.bind p
  cases e : m env st with
  | bad => unfold itSeq at p; rw [e] at p; exact p.elim
  | exc c f st1 =>
    rw [e] at p2
    refine .inl (tM_at at_ ?_)
    rw [e]; exact p2
  | ok d st1 =>
    rw [e] at p2
    have p3 : PostI X.K cn W Ex (seqD d st1) r H s Q := by unfold itSeq at p; rw [e] at p; exact p
    cases d with
    | tup ds =>
      refine .inr (tM_at at_ ?_)
      rw [e]
      intro r1 v H1 g rs rd
      obtain ⟨a, vs, h1, h2, h3⟩ := iter_tup (cn := cn) rd
      exact ⟨a, h1, ⟨vs, h2⟩, p3 r1 H1 _ g rs h3⟩
    | lst ds =>
      refine .inl (tM_at at_ ?_)
      rw [e]
      intro r1 v H1 g rs rd
      cases rd with
      | lst h hn hx hs => exact ⟨_, rfl, ⟨_, .inl (.inl h)⟩, p3 r1 H1 _ g rs (iter_list (.inl h) hn hx hs)⟩
    | scr ns =>
      refine .inl (tM_at at_ ?_)
      rw [e]
      intro r1 v H1 g rs rd
      cases rd with
      | scr h hn hx => exact ⟨_, rfl, ⟨_, .inl h⟩, p3 r1 H1 _ g rs (iter_list h hn hx rds_ints)⟩
      | scrK h => exact ⟨_, rfl, ⟨_, .inr h⟩, p3 r1 H1 _ g rs (iter_sql (fun _ _ _ _ => .inr h) rds_ints)⟩
    | _ => exact p3.elim
theorem tMA_one {m : ME} {Q : List V → Hp → Prop} {env : SEnv} (a : At K cn cl Ex r st H env s) (p : PostE K cn W Ex (m env st) r H s fun v H1 => Q [v] H1) : tMA K cn W cl (aCons m aNil) s H Q := ⟨r, env, st, Ex, a, by
  unfold aCons
  cases e : m env st with
  | ok d st1 =>
    rw [e] at p
    exact fun r1 vs H1 g rs rd => by
      cases rd with
      | cons h1 h2 => cases h2; exact p r1 _ H1 g rs h1
  | exc c f st1 => rw [e] at p; exact p
  | bad => rw [e] at p; exact p⟩
theorem si_r1 {a : Expr} {p pos : Pos} (hg : Gl X "range") (hm : X.mg "range" = none) (ha : SndE X cn W cl a m) (hs : starEach [a] X.env = [(false, eval a X.env)] := by rfl) : SndI X cn W cl tg (.Call (.Name "range" p) [a] [] pos) (itR1 m) :=
  pi_imp (pi_range1 hg hm (sa_cons ha sa_nil hs) hs) fun s H Q ⟨r, env, st, Ex, at_, p⟩ => tMA_one at_ ((PostI.bind p).mono fun v H1 ⟨r1, d, st1, g, rs, rd, p1⟩ => by
    cases d with
    | int n =>
      cases rd
      by_cases hz : decide (n.natAbs < 100000) = true
      · simp only at p1
        rw [if_pos hz] at p1
        have hz := of_decide_eq_true hz
        exact ⟨n, rfl, by omega, by omega, p1 r1 H1 _ Grow.refl rs iter_rng⟩
      · simp only at p1
        rw [if_neg hz] at p1; exact p1.elim
    | _ => exact p1.elim)
theorem si_r2 {a b : Expr} {p pos : Pos} {m2 : ME} (hg : Gl X "range") (hm : X.mg "range" = none) (ha : SndE X cn W cl a m) (hb : SndE X cn W cl b m2) (hs : starEach [a, b] X.env = [(false, eval a X.env), (false, eval b X.env)] := by rfl) (hs2 : starEach [b] X.env = [(false, eval b X.env)] := by rfl) : SndI X cn W cl tg (.Call (.Name "range" p) [a, b] [] pos) (itR2 m m2) :=
  pi_imp (pi_range2 hg hm (sa_cons ha (sa_cons hb sa_nil hs2) (by rw [hs, hs2])) hs hs2) fun s H Q ⟨r, env, st, Ex, at_, p⟩ => by
    refine ⟨r, env, st, Ex, at_, ?_⟩
    unfold itR2 at p
    unfold aCons
    cases e : m env st with
    | bad => rw [e] at p; exact p.elim
    | exc c f st1 => rw [e] at p; exact p
    | ok d st1 =>
      rw [e] at p
      simp only [R.bind] at p ⊢
      cases e2 : m2 env st1 with
      | bad => rw [e2] at p; exact p.elim
      | exc c f st2 => simp only [e2] at p ⊢; exact p
      | ok d2 st2 =>
        simp only [e2] at p ⊢
        intro r1 vs H1 g rs rd
        cases rd with
        | cons h1 h2 =>
          cases h2 with
          | cons h3 h4 =>
            cases h4
            cases d with
            | int lo =>
              cases d2 with
              | int hi =>
                cases h1; cases h3
                simp only at p
                by_cases hz : (decide (lo.natAbs < 100000) && decide (hi.natAbs < 100000)) = true
                · rw [if_pos hz] at p
                  obtain ⟨z1, z2⟩ := Bool.and_eq_true_iff.mp hz
                  have z1 := of_decide_eq_true z1
                  have z2 := of_decide_eq_true z2
                  exact ⟨lo, hi, rfl, ⟨by omega, by omega, by omega, by omega⟩, p r1 H1 _ g rs iter_rng⟩
                · rw [if_neg hz] at p; exact p.elim
              | _ => exact p.elim
            | _ => exact p.elim
end

/-! ## targets -/
inductive Tg where
  | nm (i : Nat) | tp (is : List Nat)
def setAll : List Nat → List D → SEnv → SEnv
  | i :: is, d :: ds, env => setAll is ds (env.set i (.val d))
  | _, _, env => env
def tgF (t : Tg) (d : D) (env : SEnv) : Option SEnv := match t with
  | .nm i => some (env.set i (.val d))
  | .tp is => match d with
    | .tup ds => if ds.length = is.length then some (setAll is ds env) else none
    | _ => none
def gsN : List Nat → TGs
  | [] => gNil
  | i :: is => gCons (gName i) (gsN is)
def tgG (K : PySem.W.Frag) : Tg → TG
  | .nm i => gName i
  | .tp is => gTup K is.length (gsN is)
def Tg.slots : Tg → List Nat
  | .nm i => [i]
  | .tp is => is
section
variable {K : PySem.W.Frag} {cn : CN} {Ex : Addr → Prop} {r : List Addr} {H : Hp} {env : SEnv} {s : L2.St} {st : Sto}
/-- what is stored to is none of the others' -/
def SetsOnly (is : List Nat) (s s' : L2.St) : Prop := s'.length = s.length ∧ ∀ j, j ∉ is → s'[j]? = s[j]?
theorem gs_rel {Own0 : Addr → Prop} : ∀ {is : List Nat} {vs : List V} {ds : List D} {env : SEnv} {s : L2.St} {Q : L2.St → Hp → Prop}, EnvOk K cn Ex r H env s → (∀ a, Own env s a → Own0 a) → RDs K r H (fun a => Own0 a ∨ Ex a) vs ds → ds.length = is.length →
    (∀ s', EnvOk K cn Ex r H (setAll is ds env) s' → (∀ a, Own (setAll is ds env) s' a → Own env s a) → SetsOnly is s s' → Q s' H) → gsN is vs s H Q
  | [], vs, ds, env, s, Q, eo, ho, rd, hl, k => by
    cases rd with
    | nil => exact ⟨rfl, k s eo (fun _ h => h) ⟨rfl, fun _ _ => rfl⟩⟩
    | cons _ _ => cases hl
  | i :: is, vs, ds, env, s, Q, eo, ho, rd, hl, k => by
    cases rd with
    | nil => cases hl
    | cons h hs =>
      rename_i v vs d ds
      have eo2 := eo.put (i := i) (h.kept (kept_ex fun a z => z.elim (fun z => .inl (ho a z)) .inr))
      have ho2 : ∀ a, Own (env.set i (.val d)) (s.set i (some v)) a → Own env s a := fun a h => own_set (fun _ z => by cases z) h
      refine ⟨v, vs, rfl, ?_⟩
      show gsN is vs (s.set i (some v)) H fun σ' H' => Q σ' H'
      exact gs_rel eo2 (fun a h => ho a (ho2 a h)) hs (by simpa using hl) fun s' e1 e2 e3 => k s' e1 (fun a h => ho2 a (e2 a h)) ⟨by rw [e3.1, List.length_set], fun j hj => by
        have h1 : j ≠ i := fun z => hj (by simp [z])
        have h2 : j ∉ is := fun z => hj (List.mem_cons_of_mem _ z)
        rw [e3.2 j h2, List.getElem?_set_ne (fun z => h1 z.symm)]⟩
theorem tg_rel {t : Tg} {v : V} {d : D} {env1 : SEnv} {Q : L2.St → Hp → Prop} (eo : EnvOk K cn Ex r H env s) (rd : RD K r H (OwnX env s Ex) v d) (h : tgF t d env = some env1)
    (k : ∀ s', EnvOk K cn Ex r H env1 s' → (∀ a, Own env1 s' a → Own env s a) → SetsOnly t.slots s s' → Q s' H) : tgG K t v s H Q := by
  cases t with
  | nm i =>
    cases h
    exact k _ (eo.put rd) (fun a h => own_set (fun _ z => by cases z) h) ⟨by rw [List.length_set], fun j hj => by rw [List.getElem?_set_ne (fun z => hj (by simp [Tg.slots, z]))]⟩
  | tp is =>
    cases d with
    | tup ds =>
      simp only [tgF] at h
      by_cases hl : ds.length = is.length
      · rw [if_pos hl] at h
        cases h
        obtain ⟨a, vs, rfl, h1, h2⟩ := tu_at rd
        exact ⟨a, vs, rfl, h1, by rw [h2.length, hl], gs_rel eo (fun _ h => h) h2 hl k⟩
      · rw [if_neg hl] at h; cases h
    | _ => cases h
end

/-! ## comprehensions -/
def wipeE (env : SEnv) : List Nat → SEnv
  | [] => env
  | v :: vs => (wipeE env vs).set v .un
def lcGo (ck : Bool) (t : Tg) (mt me : ME) : List D → SEnv → Sto → R (List D)
  | [], _, st => .ok [] st
  | x :: xs, env, st => match (if (ck && !noLst x) = true then none else tgF t x env) with
    | some env1 => (mt env1 st).bind fun b st1 => match b with
      | .bl b => if b = true then (me env1 st1).bind fun d st2 => (lcGo ck t mt me xs env st2).bind fun ds st3 => .ok (d :: ds) st3 else lcGo ck t mt me xs env st1
      | _ => .bad
    | none => .bad
def lcM (ck : Bool) (mi : MA) (t : Tg) (mt me : ME) (vs : List Nat) : MA := fun env st => (mi env st).bind fun ds st1 => match lcGo ck t mt me ds (wipeE env vs) st1 with
  | .ok es st2 => if sz es.length = true then .ok es st2 else .bad
  | _ => .bad
def eLC (ck : Bool) (mi : MA) (t : Tg) (mt me : ME) (vs : List Nat) : ME := fun env st => (lcM ck mi t mt me vs env st).bind fun es st1 => .ok (.lst es) st1
section
variable {K : PySem.W.Frag} {cn : CN} {Ex : Addr → Prop} {r : List Addr} {H : Hp} {env : SEnv} {s : L2.St} {st : Sto} {cl : Bool}
theorem EnvOk.un {i : Nat} (eo : EnvOk K cn Ex r H env s) : EnvOk K cn Ex r H (env.set i .un) (s.set i none) := by
  have hx : ∀ a, OwnX (env.set i .un) (s.set i none) Ex a → OwnX env s Ex a := fun a h => h.elim (fun h => .inl (own_set (fun _ z => by cases z) h)) .inr
  refine ⟨by rw [List.length_set, List.length_set]; exact eo.len, fun j e h => ?_, fun j ds h => ?_, fun j k ds es a h1 h2 h3 h4 => ?_⟩
  · rcases set_get h with ⟨_, h5⟩ | ⟨hn, h⟩
    · cases h5
    · obtain ⟨v2, h1, h2⟩ := eo.val j e h
      exact ⟨v2, by rw [List.getElem?_set_ne hn]; exact h1, h2.kept (kept_ex hx)⟩
  · rcases set_get h with ⟨_, h5⟩ | ⟨hn, h⟩
    · cases h5
    · obtain ⟨a, vs, h1, h2, h3, h4⟩ := eo.own j ds h
      exact ⟨a, vs, by rw [List.getElem?_set_ne hn]; exact h1, h2, h3, h4.kept (kept_ex hx)⟩
  · rcases set_get h1 with ⟨_, h5⟩ | ⟨hn, h⟩
    · cases h5
    · rcases set_get h2 with ⟨_, h5⟩ | ⟨hn', h'⟩
      · cases h5
      · rw [List.getElem?_set_ne hn] at h3
        rw [List.getElem?_set_ne hn'] at h4
        exact eo.inj j k ds es a h h' h3 h4
theorem EnvOk.wiped (eo : EnvOk K cn Ex r H env s) : ∀ vs : List Nat, EnvOk K cn Ex r H (wipeE env vs) (wipe s vs) ∧ ∀ a, Own (wipeE env vs) (wipe s vs) a → Own env s a
  | [] => ⟨eo, fun _ h => h⟩
  | v :: vs => ⟨(eo.wiped vs).1.un, fun a h => (eo.wiped vs).2 a (own_set (fun _ z => by cases z) h)⟩
theorem At.wiped (a : At K cn cl Ex r st H env s) (vs : List Nat) : At K cn cl Ex r st H (wipeE env vs) (wipe s vs) := ⟨a.rs, (a.eo.wiped vs).1, a.xo, fun e b h => a.ow e b ((a.eo.wiped vs).2 b h), fun e b h => a.oi e b ((a.eo.wiped vs).2 b h)⟩
theorem wipe_get (s : L2.St) (j : Nat) : ∀ vs : List Nat, (wipe s vs)[j]? = if j ∈ vs then (if j < s.length then some none else none) else s[j]?
  | [] => by simp [wipe]
  | v :: vs => by
    unfold wipe
    rw [List.getElem?_set, wipe_get s j vs, wipe_length]
    by_cases e : v = j
    · subst e; simp
    · have e' : ¬ j = v := fun z => e z.symm
      simp [e, e']
theorem wipe_sets {is vs : List Nat} {s s' : L2.St} (h : SetsOnly is (wipe s vs) s') (hi : ∀ i ∈ is, i ∈ vs) : wipe s' vs = wipe s vs := by
  have hl : s'.length = s.length := by rw [h.1, wipe_length]
  apply List.ext_getElem?
  intro j
  rw [wipe_get, wipe_get, hl]
  by_cases hj : j ∈ vs
  · rw [if_pos hj, if_pos hj]
  · rw [if_neg hj, if_neg hj, h.2 j (fun z => hj (hi j z)), wipe_get, if_neg hj]
end
/-- no exception -/
abbrev WF : WX := fun _ _ _ _ => False
section
variable {X : Cx} {cn : CN} {W : WX} {cl : Bool} {pos : Pos}
/-- the tests of a clause -/
abbrev SndTs (X : Cx) (cn : CN) (W : WX) (cl : Bool) (ifs : List Expr) (m : ME) : Prop := PTs X ifs (tMT X.K cn W cl m)
theorem sts_nil : SndTs X cn W cl [] (eC (.bl true)) := ⟨fun pins s σ H Q I ⟨r, env, st, Ex, at_, p⟩ => pts_nil.run pins s σ H Q I (p r H Grow.refl at_.rs)⟩
theorem sts_one {c : Expr} {m : ME} (h : SndT X cn W cl c m) : SndTs X cn W cl [c] m := pts_one h
/-- THE RULE's reading -/
theorem tM_lc {ck : Bool} (hck : cl = true ∨ ck = true) {t : Tg} {mi : MA} {mt me : ME} {vs : List Nat} (ht : ∀ i ∈ t.slots, i ∈ vs) : ∀ s H Q, (∃ r env st Ex, At X.K cn cl Ex r st H env s ∧ PostA X.K cn W Ex (lcM ck mi t mt me vs env st) r H s (fun _ _ => True) ∧
      ∀ es st2, lcM ck mi t mt me vs env st = .ok es st2 → ∀ r' H' p ws, Grow r H r' H' → RelSt X.K cn r' st2 H' → H p = none → H' p = some (.lst ws) → p ∉ r' → RDs X.K r' H' (fun a => Ex a ∨ a = p) ws es → Q (.ref p) H') →
    tLc (tMI X.K cn W cl mi) (tgG X.K t) (tMT X.K cn WF cl mt) (tM X.K cn WF cl me) vs s H Q := fun s H Q ⟨r, env, st, Ex, at_, pa, k⟩ => by
  refine ⟨r, env, st, Ex, at_, ?_⟩
  unfold lcM at pa k
  cases e : mi env st with
  | bad => rw [e] at pa; exact pa.elim
  | exc c f st1 => rw [e] at pa; exact pa
  | ok ds st1 =>
    rw [e] at pa k
    simp only [R.bind] at pa k
    cases e2 : lcGo ck t mt me ds (wipeE env vs) st1 with
    | bad => rw [e2] at pa; exact pa.elim
    | exc c f st2 => rw [e2] at pa; exact pa.elim
    | ok es st2 =>
      rw [e2] at pa k
      simp only at pa k
      by_cases hz : sz es.length = true
      · rw [if_pos hz] at pa k
        intro r1 H1 J g1 rs1 it L0 hD
        have hDr := rs1.out hD
        have at1 := at_.grow g1 rs1
        have gD : Grow r1 H1 r1 (upd H1 L0 (.lst [])) := Grow.lay hD
        have kfr : ∀ Ez, Kept r1 H1 Ez r1 H1 (fun a => Ez a ∨ a = L0) := fun Ez => ⟨fun _ _ h => h, fun b o hb hn _ _ => ⟨hb, hn, fun z => Or.elim z (fun z => z) fun z => by rw [z, hD] at hb; cases hb⟩⟩
        have eo1 : EnvOk X.K cn (fun a => Ex a ∨ a = L0) r1 H1 env s := by
          have hh : ∀ a, OwnX env s (fun a => Ex a ∨ a = L0) a → (OwnX env s Ex a ∨ a = L0) := fun a z => Or.elim z (fun z => Or.inl (Or.inl z)) (fun z => Or.elim z (fun z => Or.inl (Or.inr z)) Or.inr)
          refine ⟨at1.eo.len, fun i d e => ?_, fun i ds e => ?_, at1.eo.inj⟩
          · obtain ⟨v, h1, h2⟩ := at1.eo.val i d e
            exact ⟨v, h1, (h2.kept (kfr _)).kept (kept_ex hh)⟩
          · obtain ⟨a, vs, h1, h2, h3, h4⟩ := at1.eo.own i ds e
            exact ⟨a, vs, h1, h2, h3, (h4.kept (kfr _)).kept (kept_ex hh)⟩
        have at2 : At X.K cn cl (fun a => Ex a ∨ a = L0) r1 st1 (upd H1 L0 (.lst [])) env s := ⟨rs1.lay hD, eo1.grow gD, fun a h => Or.elim h (fun h => at1.xo.grow gD (rs1.lay hD) a h) (fun h => by rw [h, upd_same]; exact fun z => by cases z),
          fun z a h h2 => Or.elim h2 (at1.ow z a h) (fun h2 => by exact absurd (h2 ▸ hD) (at1.eo.ownSome h)), fun z a h => Or.inl (at1.oi z a h)⟩
        generalize hEx1 : (fun a => Ex a ∨ a = L0) = Ex1 at at2 kfr
        have ex1 : ∀ a, Ex a → Ex1 a := fun a h => by rw [← hEx1]; exact Or.inl h
        have ex2 : ∀ a, Ex1 a → Ex a ∨ a = L0 := fun a h => by rw [← hEx1] at h; exact h
        have hL : Ex1 L0 := by rw [← hEx1]; exact Or.inr rfl
        refine ⟨fun i m H' => m = ds.length - i ∧ i ≤ ds.length ∧ ∃ (r' : List Addr) (st' : Sto) (aw : List V) (ad rest : List D), Grow r1 H1 r' H' ∧ At X.K cn cl Ex1 r' st' H' env s ∧ H' L0 = some (.lst aw) ∧ L0 ∉ r' ∧ RDs X.K r' H' Ex1 aw ad ∧ lcGo ck t mt me (ds.drop i) (wipeE env vs) st' = .ok rest st2 ∧ ad ++ rest = es,
          ⟨ds.length, by simp, Nat.zero_le _, r1, st1, [], [], es, gD, at2, upd_same, hDr, .nil, by simpa using e2, rfl⟩, ?_⟩
        rintro i m H' ⟨rfl, hi, r', st', aw, ad, rest, g', at', hDl, hDn, rdA, hgo, hes⟩
        have kp : Kept r1 H1 Ex r' H' Ex1 := ⟨(g'.kept (Ex := Ex)).1, fun b o hb hn hx htb => ⟨g'.kq b o hb hn htb, g'.out hb hn, fun z => Or.elim (ex2 b z) (fun z => z) fun z => by rw [z, hD] at hb; cases hb⟩⟩
        by_cases hlt : i < ds.length
        · refine .inr ⟨it.go i r' H' Ex1 kp hlt, fun H'' => ∃ (r'' : List Addr) (st'' : Sto) (aw : List V) (ad rest : List D), Grow r1 H1 r'' H'' ∧ At X.K cn cl Ex1 r'' st'' H'' env s ∧ H'' L0 = some (.lst aw) ∧ L0 ∉ r'' ∧ RDs X.K r'' H'' Ex1 aw ad ∧ lcGo ck t mt me (ds.drop (i + 1)) (wipeE env vs) st'' = .ok rest st2 ∧ ad ++ rest = es,
            fun H'' z => ⟨ds.length - (i + 1), by omega, rfl, hlt, z⟩, fun x H'' y => ?_⟩
          obtain ⟨d, hd, g2, rs2, rd2⟩ := it.yld i r' H' Ex1 x H'' st' kp at'.rs y hlt
          have hdrop : ds.drop i = d :: ds.drop (i + 1) := by
            have h1 := List.drop_eq_getElem_cons hlt
            rw [h1]
            have h2 := (List.getElem?_eq_some_iff.mp hd).2
            rw [h2]
          rw [hdrop] at hgo
          simp only [lcGo] at hgo
          have atO : At X.K cn cl Ex1 r' st' H'' env s := at'.grow g2 rs2
          have at2 : At X.K cn cl Ex1 r' st' H'' (wipeE env vs) (wipe s vs) := atO.wiped vs
          cases e3 : (if (ck && !noLst d) = true then none else tgF t d (wipeE env vs)) with
          | none => rw [e3] at hgo; cases hgo
          | some env1 =>
            rw [e3] at hgo
            simp only at hgo
            have hc : ¬ (ck && !noLst d) = true := fun z => by rw [if_pos z] at e3; cases e3
            rw [if_neg hc] at e3
            have rd3 : RD X.K r' H'' (OwnX (wipeE env vs) (wipe s vs) Ex1) x d := by
              rcases hck with z | z
              · exact rd2.kept (kept_ex fun a h => Or.elim h (at2.oi z a) fun h => h)
              · subst z
                exact rd2.free (by simpa using hc)
            refine tg_rel at2.eo rd3 e3 fun s1 eo1 ow1 so1 => ⟨wipe_sets so1 ht, ?_⟩
            have at3 : At X.K cn cl Ex1 r' st' H'' env1 s1 := ⟨rs2, eo1, at2.xo, fun z a h => at2.ow z a (ow1 a h), fun z a h => at2.oi z a (ow1 a h)⟩
            refine ⟨r', env1, st', Ex1, at3, ?_⟩
            cases e4 : mt env1 st' with
            | bad => rw [e4] at hgo; cases hgo
            | exc c f st3 => rw [e4] at hgo; cases hgo
            | ok b st3 =>
              rw [e4] at hgo
              simp only [R.bind] at hgo
              cases b with
              | bl b =>
                simp only at hgo
                intro r3 H3 g3 rs3
                have hD3 : H3 L0 = some (.lst aw) := g3.kp _ _ (g2.kp _ _ hDl hDn) hDn
                have hn3 : L0 ∉ r3 := g3.out (g2.kp _ _ hDl hDn) hDn
                have rdA3 := g3.rds (g2.rds rdA)
                have gg : Grow r1 H1 r3 H3 := (g'.trans g2).trans g3
                have atO3 := atO.grow g3 rs3
                cases b with
                | false =>
                  simp only [Bool.false_eq_true, if_false] at hgo ⊢
                  exact ⟨r3, st3, aw, ad, rest, gg, atO3, hD3, hn3, rdA3, hgo, hes⟩
                | true =>
                  simp only [if_true] at hgo ⊢
                  have at4 := at3.grow g3 rs3
                  refine ⟨r3, env1, st3, Ex1, at4, ?_⟩
                  cases e5 : me env1 st3 with
                  | bad => rw [e5] at hgo; cases hgo
                  | exc c f st4 => rw [e5] at hgo; cases hgo
                  | ok y st4 =>
                    rw [e5] at hgo
                    simp only at hgo
                    cases e6 : lcGo ck t mt me (ds.drop (i + 1)) (wipeE env vs) st4 with
                    | bad => rw [e6] at hgo; cases hgo
                    | exc c f st5 => rw [e6] at hgo; cases hgo
                    | ok rest2 st5 =>
                      rw [e6] at hgo
                      simp only at hgo
                      cases hgo
                      intro r4 yv H4 g4 rs4 rdy
                      have hD4 : H4 L0 = some (.lst aw) := g4.kp _ _ hD3 hn3
                      have hn4 : L0 ∉ r4 := g4.out hD3 hn3
                      have hlen : aw.length < sizeLine := by
                        have h1 := of_decide_eq_true hz
                        have h2 := congrArg List.length hes
                        rw [List.length_append, List.length_cons] at h2
                        have h3 := rdA.length
                        have h4 : (100000 : Nat) < sizeLine := by decide
                        omega
                      have g14 := gg.trans g4
                      have kk : ∀ Ez, (Ez L0) → Kept r4 H4 Ez r4 (upd H4 L0 (.lst (aw ++ [yv]))) Ez := fun Ez hz0 => ⟨fun _ _ h => h, fun b o hb hnb hx _ => by
                          have e : b ≠ L0 := fun e => by
                            subst e
                            rw [hD4] at hb; cases hb
                            exact hx hz0 _ rfl
                          exact ⟨by rw [upd_ne e]; exact hb, hnb, fun z => z⟩⟩
                      have atO4 := atO3.grow g4 rs4
                      refine ⟨aw, hD4, hlen, r4, st4, aw ++ [yv], ad ++ [y], rest2, ?_, ⟨rs4.other hn4 hD4, ⟨atO4.eo.len, fun i d e => ?_, fun i es e => ?_, atO4.eo.inj⟩, fun a h => ?_, atO4.ow, atO4.oi⟩, upd_same, hn4, ?_, e6, by rw [List.append_assoc]; exact hes⟩
                      · exact ⟨g14.pre, g14.new, fun b o hb hnb htb => by
                          have : b ≠ L0 := fun z => by rw [z, hD] at hb; cases hb
                          rw [upd_ne this]; exact g14.kq b o hb hnb htb, fun b ps hb hnb => by
                          have : b ≠ L0 := fun z => by rw [z, hD] at hb; cases hb
                          rw [upd_ne this]; exact g14.tb b ps hb hnb⟩
                      · obtain ⟨v, h1, h2⟩ := atO4.eo.val i d e
                        exact ⟨v, h1, h2.kept (kk _ (Or.inr hL))⟩
                      · obtain ⟨a, vs, h1, h2, h3, h4⟩ := atO4.eo.own i es e
                        have e : a ≠ L0 := fun e => by
                          subst e
                          have q1 := at1.eo.own i es (by assumption)
                          obtain ⟨a2, vs2, q2, q3, _⟩ := q1
                          rw [h1] at q2; cases q2
                          rw [hD] at q3; cases q3
                        exact ⟨a, vs, h1, by rw [upd_ne e]; exact h2, h3, h4.kept (kk _ (Or.inr hL))⟩
                      · by_cases e : a = L0
                        · rw [e, upd_same]; exact fun z => by cases z
                        · rw [upd_ne e]; exact atO4.xo a h
                      · exact ((g4.rds rdA3).append (.cons rdy .nil)).kept (kk _ hL)
              | _ => cases hgo
        · have ei : i = ds.length := by omega
          subst ei
          refine .inl ⟨it.stop _ r' H' Ex1 kp (Nat.le_refl _), ?_⟩
          rw [List.drop_length] at hgo
          cases hgo
          rw [List.append_nil] at hes
          subst hes
          exact k ad st2 rfl r' H' L0 aw (g1.trans g') at'.rs (by
            cases q : H L0 with
            | none => rfl
            | some o =>
              by_cases hr : L0 ∈ r
              · exfalso
                obtain ⟨l, el⟩ := g1.pre
                exact hDr (by rw [el]; exact List.mem_append_left _ hr)
              · obtain ⟨o', e'⟩ := g1.some_ q hr
                rw [e'] at hD; cases hD) hDl hDn (rdA.kept (kept_ex fun a h => by rw [← hEx1]; exact h))
      · rw [if_neg hz] at pa; exact pa.elim
end
end Fx

namespace Fx
open PySem PySem.Spec PyProof.Rows L2

/-! ## comprehensions as values and stored; new lists -/
def PostF (K : PySem.W.Frag) (cn : CN) (W : WX) (Ex : Addr → Prop) (x : R (List D)) (r : List Addr) (H : Hp) (s : L2.St) (Q : VK) : Prop := match x with
  | .ok ds st => ∀ r' p vs H', Grow r H r' H' → RelSt K cn r' st H' → H p = none → H' p = some (.lst vs) → p ∉ r' → RDs K r' H' (fun a => Ex a ∨ a = p) vs ds → Q (.ref p) H'
  | .exc c f st => ∀ r' H' cls dd, Grow r H r' H' → RelSt K cn r' st H' → ExR K cn r' H' c f cls dd → W cls dd s H'
  | .bad => False
def tMF (K : PySem.W.Frag) (cn : CN) (W : WX) (cl : Bool) (m : MA) : TE := fun s H Q => ∃ r env st Ex, At K cn cl Ex r st H env s ∧ PostF K cn W Ex (m env st) r H s Q
abbrev SndF (X : Cx) (cn : CN) (W : WX) (cl : Bool) (e : Expr) (m : MA) : Prop := PE X e (tMF X.K cn W cl m)
def eNew (m : MA) : ME := fun env st => (m env st).bind fun es st1 => .ok (.lst es) st1
section
variable {K : PySem.W.Frag} {cn : CN} {W : WX} {Ex : Addr → Prop} {cl : Bool} {r r' : List Addr} {H H' : Hp} {env : SEnv} {s : L2.St} {st : Sto} {Q : VK}
theorem none_back (g : Grow r H r' H') (rs : RelSt K cn r' st H') {p : Addr} (h : H' p = none) : H p = none := by
  cases q : H p with
  | none => rfl
  | some o =>
    by_cases hr : p ∈ r
    · exfalso
      obtain ⟨l, el⟩ := g.pre
      exact rs.out h (by rw [el]; exact List.mem_append_left _ hr)
    · obtain ⟨o', e'⟩ := g.some_ q hr
      rw [e'] at h; cases h
theorem kept_new (h : H p = none) : Kept r H Ex r H (fun a => Ex a ∨ a = p) := ⟨fun _ _ e => e, fun b o hb hn _ _ => ⟨hb, hn, fun z => Or.elim z (fun z => z) fun z => by rw [z, h] at hb; cases hb⟩⟩
/-- a new list as a value -/
theorem tMF_val {m : MA} (a : At K cn cl Ex r st H env s) (p : PostE K cn W Ex (eNew m env st) r H s Q) : PostF K cn W Ex (m env st) r H s Q := by
  unfold eNew at p
  cases e : m env st with
  | ok ds st1 =>
    rw [e] at p
    exact fun r1 q vs H1 g rs h1 h2 h3 h4 => p r1 _ H1 g rs (.lst h2 h3 (fun z => a.xo q z h1) (h4.kept (kept_ex fun _ z => Or.inl z)))
  | exc c f st1 => rw [e] at p; exact p
  | bad => rw [e] at p; exact p
theorem PostF.newA {x : R (List D)} {f : List D → Option (List D)} (p : PostF K cn W Ex (x.bind fun ds st1 => match f ds with
    | some es => .ok es st1
    | none => .bad) r H s Q) : PostA K cn W Ex x r H s fun vs H1 => ∃ r1 ds st1 es, Grow r H r1 H1 ∧ RelSt K cn r1 st1 H1 ∧ RDs K r1 H1 Ex vs ds ∧ f ds = some es ∧
      ∀ q ws, H1 q = none → RDs K r1 H1 Ex ws es → Q (.ref q) (upd H1 q (.lst ws)) := by
  cases x with
  | ok ds st1 =>
    intro r1 vs H1 g rs rd
    cases e : f ds with
    | none => simp only [R.bind, e] at p; exact p.elim
    | some es =>
      simp only [R.bind, e] at p
      exact ⟨r1, ds, st1, es, g, rs, rd, e, fun q ws hq hw => p r1 q ws _ (g.trans (Grow.lay hq)) (rs.lay hq) (none_back g rs hq) upd_same (rs.out hq) ((Grow.lay hq).rds (hw.kept (kept_new hq)))⟩
  | exc c f st => exact p
  | bad => exact p
end
section
variable {X : Cx} {cn : CN} {W : WX} {cl : Bool} {pos : Pos} {e : Expr} {m : MA}
theorem se_new (h : SndF X cn W cl e m) : SndE X cn W cl e (eNew m) := pe_imp h fun s H Q ⟨r, env, st, Ex, a, p⟩ => ⟨r, env, st, Ex, a, tMF_val a p⟩
def nLst (ma : MA) : MA := fun env st => (ma env st).bind fun ds st1 => match (if sz ds.length = true then some ds else none) with
  | some es => .ok es st1
  | none => .bad
theorem sf_lst {es : List Expr} {ma : MA} (h : SndA X cn W cl es ma) : SndF X cn W cl (.List es pos) (nLst ma) := pe_imp (pe_lst h) fun s H Q ⟨r, env, st, Ex, a, p⟩ =>
  tMA_at a ((PostF.newA p).mono fun vs H1 ⟨r1, ds, st1, es, g, rs, rd, e, k⟩ => by
    by_cases hz : sz ds.length = true
    · rw [if_pos hz] at e
      cases e
      exact ⟨by rw [rd.length]; exact sz_ok hz, fun q hq => k q vs hq rd⟩
    · rw [if_neg hz] at e; cases e)
/-- list(x) -/
def nOf (m : ME) : MA := fun env st => (m env st).bind fun d st1 => match d with
  | .tup ds => .ok ds st1
  | d => (match lsOf st1 d with
    | some ds => .ok ds st1
    | none => .bad)
theorem PostF.bindE {K : PySem.W.Frag} {x : R D} {Ex : Addr → Prop} {r : List Addr} {H : Hp} {s : L2.St} {Q : VK} {k : D → Sto → R (List D)} (p : PostF K cn W Ex (x.bind k) r H s Q) : PostE K cn W Ex x r H s fun v H1 => ∃ r1 d st1, Grow r H r1 H1 ∧ RelSt K cn r1 st1 H1 ∧ RD K r1 H1 Ex v d ∧ PostF K cn W Ex (k d st1) r1 H1 s Q := by
  cases x with
  | ok d st1 =>
    intro r1 v H1 g rs rd
    refine ⟨r1, d, st1, g, rs, rd, ?_⟩
    have p2 : PostF K cn W Ex (k d st1) r H s Q := p
    cases e : k d st1 with
    | ok ds st2 => rw [e] at p2; exact fun r2 q vs H2 g2 rs2 h1 => p2 r2 q vs H2 (g.trans g2) rs2 (none_back g rs h1)
    | exc c f st2 => rw [e] at p2; exact fun r2 H2 cls dd g2 => p2 r2 H2 cls dd (g.trans g2)
    | bad => rw [e] at p2; exact p2
  | exc c f st => exact p
  | bad => exact p
theorem sf_list {p : Pos} {me : ME} (hg : Gl X "list") (hm : X.mg "list" = none) (h : SndE X cn W cl e me) (hs : starEach [e] X.env = (false, eval e X.env) :: starEach [] X.env := by rfl) (hpl : (backTo pos (starEach [] X.env)).any (·.1) = false := by rfl) : SndF X cn W cl (.Call (.Name "list" p) [e] [] pos) (nOf me) :=
  pe_imp (pe_callTy call_list_of hg hm (by decide +kernel) (pa_cons h pa_nil hs) (by decide) (by decide) hs hpl) fun s H Q ⟨r, env, st, Ex, a, p⟩ => tM_at a ((PostF.bindE p).mono fun v H1 ⟨r1, d, st1, g, rs, rd, p1⟩ => by
    have fin : ∀ {b ws es}, (SqL X.K H1 b ws ∨ SqT X.K H1 b ws) → v = .ref b → RDs X.K r1 H1 Ex ws es → PostF X.K cn W Ex (.ok es st1) r1 H1 s Q → ∃ p ys, [v] = [V.ref p] ∧ (SqL X.K H1 p ys ∨ SqT X.K H1 p ys) ∧ ∀ l, H1 l = none → Q (.ref l) (upd H1 l (.lst ys)) := fun {b ws es} h h1 h3 q =>
      ⟨b, ws, by rw [h1], h, fun l hl => q r1 l ws _ (Grow.lay hl) (rs.lay hl) hl upd_same (rs.out hl) ((Grow.lay hl).rds (h3.kept (kept_new hl)))⟩
    have rest : ∀ {c : D}, RD X.K r1 H1 Ex v c → PostF X.K cn W Ex (match lsOf st1 c with
        | some ds => .ok ds st1
        | none => .bad) r1 H1 s Q → ∃ p ys, [v] = [V.ref p] ∧ (SqL X.K H1 p ys ∨ SqT X.K H1 p ys) ∧ ∀ l, H1 l = none → Q (.ref l) (upd H1 l (.lst ys)) := fun {c} rx q => by
      cases e2 : lsOf st1 c with
      | none => rw [e2] at q; exact q.elim
      | some es =>
        rw [e2] at q
        obtain ⟨b, ws, h1, h2, h3⟩ := ls_at rs rx e2
        exact fin (.inl h2) h1 h3 q
    cases d with
    | tup ds =>
      obtain ⟨b, ws, h1, h2, h3⟩ := tu_at rd
      exact fin (.inr h2) h1 h3 p1
    | _ => exact rest rd p1)
/-- a + b of lists -/
def nCat (m1 m2 : ME) : MA := fun env st => (m1 env st).bind fun d st1 => (m2 env st1).bind fun e st2 => match d, e with
  | .lst xs, .lst ys => if sz (xs.length + ys.length) = true then .ok (xs ++ ys) st2 else .bad
  | _, _ => .bad
theorem sf_cat {a b : Expr} {m1 m2 : ME} (ha : SndE X cn W cl a m1) (hb : SndE X cn W cl b m2) : SndF X cn W cl (.BinOp a .Add b pos) (nCat m1 m2) := pe_imp (pe_op op_cat ha hb) fun s H Q ⟨r, env, st, Ex, a, p⟩ =>
  tM_at a ((PostF.bindE p).mono fun v H1 ⟨r1, d, st1, g, rs, rd, p1⟩ => tM_at (a.grow g rs) ((PostF.bindE p1).mono fun w H2 ⟨r2, e, st2, g2, rs2, rd2, p2⟩ => by
    cases d with
    | lst xs =>
      cases e with
      | lst ys =>
        simp only at p2
        by_cases hz : sz (xs.length + ys.length) = true
        · rw [if_pos hz] at p2
          cases g2.rd rd with
          | lst h1 hn hx h2 =>
            cases rd2 with
            | lst h3 hn' hx' h4 =>
              exact ⟨_, _, _, _, rfl, rfl, h1, h3, by rw [h2.length, h4.length]; exact sz_ok hz, fun q hq => p2 r2 q _ _ (Grow.lay hq) (rs2.lay hq) hq upd_same (rs2.out hq) ((Grow.lay hq).rds ((h2.append h4).kept (kept_new hq)))⟩
        · rw [if_neg hz] at p2; exact p2.elim
      | _ => exact p2.elim
    | _ => exact p2.elim))
variable {elt tg iter : Expr} {ifs : List Expr} {scope : Scope} {own : List (Str × Nat)} {t : Tg} {mi : MA} {mt me : ME} {ck : Bool}
theorem tM_lcF (ht : ∀ i ∈ t.slots, i ∈ own.map (·.2)) (hck : cl = true ∨ ck = true) : ∀ s H Q, tMF X.K cn W cl (lcM ck mi t mt me (own.map (·.2))) s H Q → tLc (tMI X.K cn W cl mi) (tgG X.K t) (tMT X.K cn WF cl mt) (tM X.K cn WF cl me) (own.map (·.2)) s H Q := fun s H Q ⟨r, env, st, Ex, a, p⟩ => by
  refine tM_lc (ck := ck) hck ht s H Q ⟨r, env, st, Ex, a, ?_, fun es st2 e r' H' q ws g rs h1 h2 h3 h4 => ?_⟩
  · cases e : lcM ck mi t mt me (own.map (·.2)) env st with
    | ok ds st1 => exact fun _ _ _ _ _ _ => trivial
    | exc c f st1 => rw [e] at p; exact p
    | bad => rw [e] at p; exact p
  · rw [e] at p
    exact p r' q ws H' g rs h1 h2 h3 h4
theorem sf_lc (hc : X.calm = true) (hN : X.N.Nodup) (hi : SndI X cn W cl tg iter mi) (ok : BlkOk X.N X.env.scope scope own)
    (hg : ∀ (s : Shared) (H : Hp) (C : Addr) (cl' : List (Str × Addr)) (fp : List Addr), PG (X.blk s H scope (compEnvC scope cl' C X.env) fp) tg (tgG X.K t)) (ht : ∀ (s : Shared) (H : Hp) (C : Addr) (cl' : List (Str × Addr)) (fp : List Addr), SndTs (X.blk s H scope (compEnvC scope cl' C X.env) fp) cn WF cl ifs mt)
    (he : ∀ (s : Shared) (H : Hp) (C : Addr) (cl' : List (Str × Addr)) (fp : List Addr), SndE (X.blk s H scope (compEnvC scope cl' C X.env) fp) cn WF cl elt me) (hsl : ∀ i ∈ t.slots, i ∈ own.map (·.2) := by decide) (hck : cl = true ∨ ck = true := by first | exact .inl rfl | exact .inr rfl) (hs : ∀ x, foldedSetIterable iter X.env x = pure x := by intro _; rfl) :
    SndF X cn W cl (.ListComp elt [⟨tg, iter, ifs, 0⟩] scope pos) (lcM ck mi t mt me (own.map (·.2))) := pe_imp (pe_lc (tt := tMT X.K cn WF cl mt) (te := tM X.K cn WF cl me) hc hN hi ok hg ht he hs) (tM_lcF hsl hck)
end

/-! ## own lists: made, read, changed -/
def R.stmF (x : R (List D)) (env : SEnv) (k : List D → Sto → RS) : RS := x.stmA env k
def mSet_ (i : Nat) (m : MA) : MS := fun env st => (m env st).stmA env fun ds st1 => .nx (env.set i (.val (.lst ds))) st1
def mOwn (i : Nat) (m : MA) : MS := fun env st => (m env st).stmA env fun ds st1 => .nx (env.set i (.own ds)) st1
section
variable {K : PySem.W.Frag} {cn : CN} {W : WX} {Ex : Addr → Prop} {cl : Bool} {r0 r r' : List Addr} {H0 H H' : Hp} {env : SEnv} {s : L2.St} {st st' : Sto} {Dn : Ends}
theorem PostS.ofF {x : R (List D)} {k : List D → Sto → RS} {cl : Bool} (o : StOk K cn Ex r0 H0 r env st s H) (p : PostS K cn W Ex r0 H0 (x.stmA env k) Dn) {Q : VK} (h : ∀ r1 q ws ds st1 H1, Grow r H r1 H1 → StOk K cn Ex r0 H0 r1 env st1 s H1 → H q = none → H1 q = some (.lst ws) → q ∉ r1 → RDs K r1 H1 (fun a => exOf cl env s Ex a ∨ a = q) ws ds → PostS K cn W Ex r0 H0 (k ds st1) Dn → Q (.ref q) H1) : PostF K cn W (exOf cl env s Ex) x r H s Q := by
  cases x with
  | ok ds st1 => exact fun r1 q ws H1 g rs h1 h2 h3 h4 => h r1 q ws ds st1 H1 g (o.grow g rs) h1 h2 h3 h4 p
  | exc c f st1 => exact fun r2 H2 cls dd g rs ex => p r2 s H2 cls dd (o.grow g rs) ex
  | bad => exact p
theorem StOk.none0 (o : StOk K cn Ex r0 H0 r env st s H) {q : Addr} (h : H q = none) : H0 q = none := none_back o.gr o.rs h
theorem own_own {i : Nat} {ds : List D} {q a : Addr} (h : Own (env.set i (.own ds)) (s.set i (some (.ref q))) a) : Own env s a ∨ a = q := by
  obtain ⟨j, es, h1, h2⟩ := h
  rcases set_get h1 with ⟨e, _⟩ | ⟨hn, h3⟩
  · subst e
    rcases set_get h2 with ⟨_, h4⟩ | ⟨hn, _⟩
    · cases h4; exact .inr rfl
    · exact absurd rfl hn
  · rw [List.getElem?_set_ne hn] at h2
    exact .inl ⟨j, es, h3, h2⟩
/-- a new own list -/
theorem StOk.own {i : Nat} {q : Addr} {ws : List V} {ds : List D} (o : StOk K cn Ex r0 H0 r env st s H) {r1 : List Addr} {H1 : Hp} {st1 : Sto} (g : Grow r H r1 H1) (o1 : StOk K cn Ex r0 H0 r1 env st1 s H1) (h1 : H q = none) (h2 : H1 q = some (.lst ws)) (h3 : q ∉ r1) (h4 : RDs K r1 H1 (fun a => OwnX env s Ex a ∨ a = q) ws ds) :
    StOk K cn Ex r0 H0 r1 (env.set i (.own ds)) st1 (s.set i (some (.ref q))) H1 := by
  have hx : ∀ a, OwnX (env.set i (.own ds)) (s.set i (some (.ref q))) Ex a → (OwnX env s Ex a ∨ a = q) := fun a h => Or.elim h (fun h => Or.elim (own_own h) (fun h => .inl (.inl h)) .inr) (fun h => .inl (.inr h))
  have kk : Kept r H (OwnX env s Ex) r1 H1 (fun a => OwnX env s Ex a ∨ a = q) := ⟨(g.kept (Ex := Ex)).1, fun b u hb hn hx ht => ⟨g.kq b u hb hn ht, g.out hb hn, fun z => Or.elim z (fun z => z) fun z => by rw [z, h1] at hb; cases hb⟩⟩
  refine ⟨o1.gr, o1.rs, ⟨by rw [List.length_set, List.length_set]; exact o1.eo.len, fun j d h => ?_, fun j es h => ?_, fun j k ds2 es a e1 e2 e3 e4 => ?_⟩, fun a h => ?_, o1.xo⟩
  · rcases set_get h with ⟨_, h5⟩ | ⟨hn, h⟩
    · cases h5
    · obtain ⟨v, q1, q2⟩ := o.eo.val j d h
      exact ⟨v, by rw [List.getElem?_set_ne hn]; exact q1, (q2.kept kk).kept (kept_ex hx)⟩
  · have hlt := (List.getElem?_eq_some_iff.mp h).1
    rw [List.length_set, o1.eo.len] at hlt
    rcases set_get h with ⟨e, h5⟩ | ⟨hn, h⟩
    · subst e
      cases h5
      exact ⟨q, ws, by rw [List.getElem?_set_self hlt], h2, h3, h4.kept (kept_ex hx)⟩
    · obtain ⟨a, vs, q1, q2, q3, q4⟩ := o.eo.own j es h
      exact ⟨a, vs, by rw [List.getElem?_set_ne hn]; exact q1, g.kp _ _ q2 q3, g.out q2 q3, (q4.kept kk).kept (kept_ex hx)⟩
  · rcases set_get e1 with ⟨x1, y1⟩ | ⟨n1, y1⟩
    · rcases set_get e2 with ⟨x2, y2⟩ | ⟨n2, y2⟩
      · rw [← x1, ← x2]
      · exfalso
        subst x1
        rcases set_get e3 with ⟨_, z⟩ | ⟨z, _⟩
        · cases z
          rw [List.getElem?_set_ne n2] at e4
          exact o.eo.ownSome ⟨k, es, y2, e4⟩ h1
        · exact z rfl
    · rcases set_get e2 with ⟨x2, y2⟩ | ⟨n2, y2⟩
      · exfalso
        subst x2
        rcases set_get e4 with ⟨_, z⟩ | ⟨z, _⟩
        · cases z
          rw [List.getElem?_set_ne n1] at e3
          exact o.eo.ownSome ⟨j, ds2, y1, e3⟩ h1
        · exact z rfl
      · rw [List.getElem?_set_ne n1] at e3
        rw [List.getElem?_set_ne n2] at e4
        exact o.eo.inj j k ds2 es a y1 y2 e3 e4
  · rcases own_own h with h | h
    · exact o1.fr a h
    · rw [h]; exact o.none0 h1
/-- an own list is rewritten -/
theorem StOk.rewrite {i : Nat} {ds es : List D} {a : Addr} {ws us : List V} (o : StOk K cn Ex r0 H0 r env st s H) (hi : env[i]? = some (.own ds)) (hs : s[i]? = some (some (.ref a))) (ha : H a = some (.lst ws)) (rd : RDs K r H (OwnX env s Ex) us es) :
    StOk K cn Ex r0 H0 r (env.set i (.own es)) st s (upd H a (.lst us)) := by
  have hw : Own env s a := ⟨i, ds, hi, hs⟩
  obtain ⟨a2, vs2, b1, b2, b3, b4⟩ := o.eo.own i ds hi
  rw [hs] at b1; cases b1
  have hil : i < env.length := (List.getElem?_eq_some_iff.mp hi).1
  have hsame : ∀ b, Own (env.set i (.own es)) s b ↔ Own env s b := fun b => by
    constructor
    · rintro ⟨j, fs, h1, h2⟩
      rcases set_get h1 with ⟨e, _⟩ | ⟨hn, h3⟩
      · subst e; exact ⟨i, ds, hi, h2⟩
      · exact ⟨j, fs, h3, h2⟩
    · rintro ⟨j, fs, h1, h2⟩
      by_cases e : i = j
      · subst e; exact ⟨i, es, by rw [List.getElem?_set_self hil], h2⟩
      · exact ⟨j, fs, by rw [List.getElem?_set_ne e]; exact h1, h2⟩
  have kk : Kept r H (OwnX env s Ex) r (upd H a (.lst us)) (OwnX (env.set i (.own es)) s Ex) := ⟨fun _ _ e => e, fun b u hb hn hx _ => by
    have e : b ≠ a := fun e => by
      subst e
      rw [ha] at hb; cases hb
      exact hx (Or.inl hw) _ rfl
    exact ⟨by rw [upd_ne e]; exact hb, hn, fun z => Or.elim z (fun z => .inl ((hsame b).mp z)) .inr⟩⟩
  refine ⟨⟨o.gr.pre, o.gr.new, fun b u hb hn ht => ?_, fun b ps hb hn => ?_⟩, o.rs.other b3 ha, ⟨by rw [List.length_set]; exact o.eo.len, fun j d h => ?_, fun j fs h => ?_, fun j k ds2 es2 b e1 e2 e3 e4 => ?_⟩, fun b h => o.fr b ((hsame b).mp h), o.xo⟩
  · have e : b ≠ a := fun e => by
      have := o.fr a hw
      rw [← e, hb] at this; cases this
    rw [upd_ne e]; exact o.gr.kq b u hb hn ht
  · have e : b ≠ a := fun e => by
      have := o.fr a hw
      rw [← e, hb] at this; cases this
    rw [upd_ne e]; exact o.gr.tb b ps hb hn
  · rcases set_get h with ⟨_, h5⟩ | ⟨hn, h⟩
    · cases h5
    · obtain ⟨v, q1, q2⟩ := o.eo.val j d h
      exact ⟨v, q1, q2.kept kk⟩
  · rcases set_get h with ⟨e, h5⟩ | ⟨hn, h⟩
    · subst e
      cases h5
      exact ⟨a, us, hs, upd_same, b3, rd.kept kk⟩
    · obtain ⟨b, vs, q1, q2, q3, q4⟩ := o.eo.own j fs h
      have e : b ≠ a := fun e => hn (o.eo.inj i j ds fs a hi h hs (by rw [← e]; exact q1))
      exact ⟨b, vs, q1, by rw [upd_ne e]; exact q2, q3, q4.kept kk⟩
  · have f1 : ∃ x1, env[j]? = some (.own x1) := by
      rcases set_get e1 with ⟨e, _⟩ | ⟨_, h⟩
      · subst e; exact ⟨ds, hi⟩
      · exact ⟨_, h⟩
    have f2 : ∃ x1, env[k]? = some (.own x1) := by
      rcases set_get e2 with ⟨e, _⟩ | ⟨_, h⟩
      · subst e; exact ⟨ds, hi⟩
      · exact ⟨_, h⟩
    obtain ⟨x1, f1⟩ := f1
    obtain ⟨x2, f2⟩ := f2
    exact o.eo.inj j k x1 x2 b f1 f2 e3 e4
end
section
variable {X : Cx} {cn : CN} {W : WX} {cl : Bool} {pos pos' : Pos} {e : Expr} {m : MA}
theorem own_cl {K : PySem.W.Frag} {r : List Addr} {H : Hp} {Ex : Addr → Prop} {env : SEnv} {s : L2.St} {q : Addr} {ws : List V} {ds : List D} (h : RDs K r H (fun a => exOf true env s Ex a ∨ a = q) ws ds) : RDs K r H (fun a => OwnX env s Ex a ∨ a = q) ws ds :=
  h.kept (kept_ex fun a z => Or.elim z (fun z => Or.inl (Or.elim z (fun z => Or.inl ⟨rfl, z⟩) Or.inr)) Or.inr)
theorem s_own {i : Nat} {K : PySem.W.Frag} : ∀ Dn s H, tS K cn W (mOwn i m) Dn s H → tAsg (tMF K cn W true m) (gName i) Dn s H := fun Dn s H ⟨r0, H0, r, env, st, Ex, o, p⟩ =>
  ⟨r, env, st, _, o.at_, PostS.ofF o p fun r1 q ws ds st1 H1 g o1 h1 h2 h3 h4 p1 => p1 r1 _ H1 (o.own g o1 h1 h2 h3 (own_cl h4))⟩
theorem ss_own {i : Nat} {x : Str} (hN : X.N.Nodup) (hi : X.N[i]? = some x) (hx : Loc X.env.scope x) (he : SndF X cn W true e m) (hs : swapsWith e (some (.Name x pos')) pos.line X.env = pure false := by rfl) (hf : X.fn x = true ∨ X.env.scope.names.lookup x = some .local := by first | exact .inl rfl | exact .inr rfl | assumption) :
    SndS X cn W (.Assign [.Name x pos'] e pos) (mOwn i m) := ps_imp (ps_set hN hi hx he hs hf) s_own
variable {elt tg iter : Expr} {ifs : List Expr} {scope : Scope} {own : List (Str × Nat)} {t : Tg} {mi : MA} {mt me : ME} {ck : Bool} {spos py : Pos} {y : Str}
/-- name = [..]: the name is own (mOwn) or not (mSet_) -/
theorem ss_ownLc {i : Nat} (hc : X.calm = true) (hN : X.N.Nodup) (hy : X.N[i]? = some y) (hyl : X.env.scope.names.lookup y = some .local) (hsw : swapsWith (.ListComp elt [⟨tg, iter, ifs, 0⟩] scope pos) (some (.Name y py)) spos.line X.env = pure true) (hi : SndI X cn W true tg iter mi) (ok : BlkOk X.N X.env.scope scope own)
    (hg : ∀ (s : Shared) (H : Hp) (C : Addr) (cl' : List (Str × Addr)) (fp : List Addr), PG (X.blk s H scope (compEnvC scope cl' C X.env) fp) tg (tgG X.K t)) (ht : ∀ (s : Shared) (H : Hp) (C : Addr) (cl' : List (Str × Addr)) (fp : List Addr), SndTs (X.blk s H scope (compEnvC scope cl' C X.env) fp) cn WF true ifs mt)
    (he : ∀ (s : Shared) (H : Hp) (C : Addr) (cl' : List (Str × Addr)) (fp : List Addr), SndE (X.blk s H scope (compEnvC scope cl' C X.env) fp) cn WF true elt me) (hsl : ∀ i ∈ t.slots, i ∈ own.map (·.2) := by decide) (hs : ∀ x, foldedSetIterable iter X.env x = pure x := by intro _; rfl) :
    SndS X cn W (.Assign [.Name y py] (.ListComp elt [⟨tg, iter, ifs, 0⟩] scope pos) spos) (mOwn i (lcM false mi t mt me (own.map (·.2)))) := ps_imp (ps_setLc (tt := tMT X.K cn WF true mt) (te := tM X.K cn WF true me) hc hN hy hyl hsw hi ok hg ht he hs) fun Dn s H h => tM_lcF hsl (.inl rfl) _ _ _ (s_own Dn s H h)
theorem s_set_ {i : Nat} {K : PySem.W.Frag} : ∀ Dn s H, tS K cn W (mSet_ i m) Dn s H → tAsg (tMF K cn W true m) (gName i) Dn s H := fun Dn s H ⟨r0, H0, r, env, st, Ex, o, p⟩ =>
  ⟨r, env, st, _, o.at_, PostS.ofF o p fun r1 q ws ds st1 H1 g o1 h1 h2 h3 h4 p1 => p1 r1 _ H1 (o1.put (.lst h2 h3 (fun z => Or.elim z (fun z => o.eo.ownSome z h1) fun z => o.xo.grow o.gr o.rs q z h1) ((own_cl h4).kept (kept_ex fun _ z => Or.inl z))))⟩
theorem ss_setLc {i : Nat} (hc : X.calm = true) (hN : X.N.Nodup) (hy : X.N[i]? = some y) (hyl : X.env.scope.names.lookup y = some .local) (hsw : swapsWith (.ListComp elt [⟨tg, iter, ifs, 0⟩] scope pos) (some (.Name y py)) spos.line X.env = pure true) (hi : SndI X cn W true tg iter mi) (ok : BlkOk X.N X.env.scope scope own)
    (hg : ∀ (s : Shared) (H : Hp) (C : Addr) (cl' : List (Str × Addr)) (fp : List Addr), PG (X.blk s H scope (compEnvC scope cl' C X.env) fp) tg (tgG X.K t)) (ht : ∀ (s : Shared) (H : Hp) (C : Addr) (cl' : List (Str × Addr)) (fp : List Addr), SndTs (X.blk s H scope (compEnvC scope cl' C X.env) fp) cn WF true ifs mt)
    (he : ∀ (s : Shared) (H : Hp) (C : Addr) (cl' : List (Str × Addr)) (fp : List Addr), SndE (X.blk s H scope (compEnvC scope cl' C X.env) fp) cn WF true elt me) (hsl : ∀ i ∈ t.slots, i ∈ own.map (·.2) := by decide) (hs : ∀ x, foldedSetIterable iter X.env x = pure x := by intro _; rfl) :
    SndS X cn W (.Assign [.Name y py] (.ListComp elt [⟨tg, iter, ifs, 0⟩] scope pos) spos) (mSet_ i (lcM false mi t mt me (own.map (·.2)))) := ps_imp (ps_setLc (tt := tMT X.K cn WF true mt) (te := tM X.K cn WF true me) hc hN hy hyl hsw hi ok hg ht he hs) fun Dn s H h => tM_lcF hsl (.inl rfl) _ _ _ (s_set_ Dn s H h)
/-- own.append(e) -/
def mApp (i : Nat) (m : ME) : MS := fun env st => match env[i]? with
  | some (.own xs) => (m env st).stm env fun d st1 => if sz (xs.length + 1) = true then .nx (env.set i (.own (xs ++ [d]))) st1 else .bad
  | _ => .bad
theorem ownAt {env : SEnv} {i : Nat} {K : PySem.W.Frag} {Ex : Addr → Prop} {r0 : List Addr} {H0 : Hp} {f : List D → RS} {Dn : Ends} (p : PostS K cn W Ex r0 H0 (match env[i]? with
    | some (.own xs) => f xs
    | _ => .bad) Dn) : ∃ xs, env[i]? = some (.own xs) ∧ PostS K cn W Ex r0 H0 (f xs) Dn := by
  split at p
  · exact ⟨_, by assumption, p⟩
  · exact p.elim
theorem ss_app {i : Nat} {x : Str} {m : ME} {p1 p2 p3 : Pos}
    (hpe : PE X (.Call (.Attribute (.Name x p1) "append" p2) [e] [] p3) (tBM X.K "list" rAppend (tVar i) (tCons (tM X.K cn W true m) tNil))) (hs : swapsWith (.Call (.Attribute (.Name x p1) "append" p2) [e] [] p3) none pos.line X.env = pure false := by rfl) :
    SndS X cn W (.Expr (.Call (.Attribute (.Name x p1) "append" p2) [e] [] p3) pos) (mApp i m) := ps_imp (ps_expr hpe hs) fun Dn s H ⟨r0, H0, r, env, st, Ex, o, p⟩ => by
  obtain ⟨xs, hi, p⟩ := ownAt p
  obtain ⟨a, vs, h1, h2, h3, h4⟩ := o.eo.own i xs hi
  refine ⟨_, h1, .inl ⟨rfl, vs, .inl (.inl h2)⟩, tM_at o.at_ ((PostS.ofE (cl := true) o p).mono fun v H1 ⟨r1, d, st1, g, o1, rd, p1⟩ => ?_)⟩
  by_cases hz : sz (xs.length + 1) = true
  · rw [if_pos hz] at p1
    have h2' := g.kp _ _ h2 h3
    have hlen : vs.length < sizeLine := by
      have h5 := of_decide_eq_true hz
      have h6 := h4.length
      have h7 : (100000 : Nat) < sizeLine := by decide
      omega
    exact ⟨a, vs, v, rfl, rfl, h2', hlen, p1 r1 s _ (o1.rewrite hi h1 h2' ((g.rds h4).append (.cons rd.ownx .nil)))⟩
  · rw [if_neg hz] at p1; exact p1.elim
/-- own[k] = e -/
def mPut (i : Nat) (mk m : ME) : MS := fun env st => match env[i]? with
  | some (.own xs) => (m env st).stm env fun d st1 => (mk env st1).stm env fun k st2 => match k with
    | .int k => (match ixN xs.length k with
      | some j => .nx (env.set i (.own (xs.set j d))) st2
      | none => .bad)
    | _ => .bad
  | _ => .bad
theorem ss_put {i : Nat} {x : Str} {k : Expr} {mk m : ME} {p1 p2 : Pos} (he : SndE X cn W true e m) (hg : PG X (.Subscript (.Name x p1) k p2) (gSub (tVar i) (tM X.K cn W true mk) rSetL))
    (hs : swapsWithSole [.Subscript (.Name x p1) k p2] e pos.line X.env = pure false := by rfl) (hw : swappedStores [.Subscript (.Name x p1) k p2] e X.env = pure none := by rfl) (h1 : (assignEach [.Subscript (.Name x p1) k p2] X.env).map (·.2) = [assign (.Subscript (.Name x p1) k p2) X.env] := by rfl) :
    SndS X cn W (.Assign [.Subscript (.Name x p1) k p2] e pos) (mPut i mk m) := ps_imp (ps_asg he hg hs hw h1) fun Dn s H ⟨r0, H0, r, env, st, Ex, o, p⟩ => by
  obtain ⟨xs, hi, p⟩ := ownAt p
  obtain ⟨a, vs, h1, h2, h3, h4⟩ := o.eo.own i xs hi
  refine tM_at o.at_ ((PostS.ofE (cl := true) o p).mono fun v H1 ⟨r1, d, st1, g, o1, rd, p1⟩ => ⟨_, h1, tM_at o1.at_ ((PostS.ofE (cl := true) o1 p1).mono fun kv H2 ⟨r2, kd, st2, g2, o2, rdk, p2⟩ => ?_)⟩)
  cases kd with
  | int k =>
    cases rdk
    simp only at p2
    cases e : ixN xs.length k with
    | none => rw [e] at p2; exact p2.elim
    | some j =>
      rw [e] at p2
      have gg := g.trans g2
      have h2' := gg.kp _ _ h2 h3
      exact ⟨a, vs, k, j, rfl, rfl, h2', by rw [h4.length]; exact e, p2 r2 s _ (o2.rewrite hi h1 h2' ((gg.rds h4).set j (g2.rd rd).ownx))⟩
  | _ => exact p2.elim
/-- name = e where e reads own lists: no list in the value -/
def mSetU (i : Nat) (m : ME) : MS := fun env st => (m env st).stm env fun d st1 => if noLst d = true then .nx (env.set i (.val d)) st1 else .bad
theorem ss_setU {i : Nat} {x : Str} {m : ME} (hN : X.N.Nodup) (hi : X.N[i]? = some x) (hx : Loc X.env.scope x) (he : SndE X cn W false e m) (hs : swapsWith e (some (.Name x pos')) pos.line X.env = pure false := by rfl) (hf : X.fn x = true ∨ X.env.scope.names.lookup x = some .local := by first | exact .inl rfl | exact .inr rfl | assumption) :
    SndS X cn W (.Assign [.Name x pos'] e pos) (mSetU i m) := ps_imp (ps_set hN hi hx he hs hf) fun Dn s H ⟨r0, H0, r, env, st, Ex, o, p⟩ =>
  tM_at o.at_ ((PostS.ofE o p).mono fun v H1 ⟨r1, d, st1, g, o1, rd, p1⟩ => by
    by_cases hz : noLst d = true
    · rw [if_pos hz] at p1
      exact p1 r1 _ H1 (o1.put (rd.free hz))
    · rw [if_neg hz] at p1; exact p1.elim)
end

/-! ## loops -/
def forGo (t : Tg) (mb : MS) : List D → SEnv → Sto → RS
  | [], env, st => .nx env st
  | x :: xs, env, st => match tgF t x env with
    | some env1 => (match mb env1 st with
      | .nx env2 st2 => forGo t mb xs env2 st2
      | .ct env2 st2 => forGo t mb xs env2 st2
      | .bk env2 st2 => .nx env2 st2
      | y => y)
    | none => .bad
def mFor (mi : MA) (t : Tg) (mb : MS) : MS := fun env st => (mi env st).stmA env fun ds st1 => forGo t mb ds env st1
def whileGo (mc : ME) (mb : MS) : Nat → SEnv → Sto → RS
  | 0, _, _ => .bad
  | n + 1, env, st => (mc env st).stm env fun d st1 => match d with
    | .bl b => if b = true then (match mb env st1 with
        | .nx env2 st2 => whileGo mc mb n env2 st2
        | .ct env2 st2 => whileGo mc mb n env2 st2
        | .bk env2 st2 => .nx env2 st2
        | y => y) else .nx env st1
    | _ => .bad
def mWhile (n : Nat) (mc : ME) (mb : MS) : MS := fun env st => whileGo mc mb n env st
section
variable {K : PySem.W.Frag} {cn : CN} {W : WX} {Ex : Addr → Prop} {cl : Bool} {r0 r r' : List Addr} {H0 H H' : Hp} {env env' : SEnv} {s s' : L2.St} {st st' : Sto} {Dn : Ends}
open Classical in
/-- the heap without the own lists -/
noncomputable def cutH (H : Hp) (env : SEnv) (s : L2.St) : Hp := fun a => if Own env s a then none else H a
theorem cut_some {a : Addr} {o : HO} (h : cutH H env s a = some o) : H a = some o ∧ ¬ Own env s a := by
  unfold cutH at h
  by_cases e : Own env s a
  · rw [if_pos e] at h; cases h
  · rw [if_neg e] at h; exact ⟨h, e⟩
theorem cut_of {a : Addr} {o : HO} (h : H a = some o) (e : ¬ Own env s a) : cutH H env s a = some o := by unfold cutH; rw [if_neg e]; exact h
theorem cut_none {a : Addr} (e : Own env s a) : cutH H env s a = none := by unfold cutH; rw [if_pos e]
theorem StOk.notOwn (o : StOk K cn Ex r0 H0 r env st s H) {a : Addr} (h : a ∈ r) : ¬ Own env s a := fun ⟨i, ds, h1, h2⟩ => by
  obtain ⟨b, vs, q1, q2, q3, _⟩ := o.eo.own i ds h1
  rw [h2] at q1; cases q1
  exact q3 h
theorem StOk.base (o : StOk K cn Ex r0 H0 r env st s H) : Grow r0 H0 r (cutH H env s) ∧ (∀ a ∈ r, cutH H env s a ≠ none) ∧ StOk K cn Ex r (cutH H env s) r env st s H := by
  refine ⟨⟨o.gr.pre, o.gr.new, fun a u h hn ht => cut_of (o.gr.kq a u h hn ht) fun z => (by rw [o.fr a z] at h; cases h), fun a ps h hn => (o.gr.tb a ps h hn).elim fun ps' e => ⟨ps', cut_of e fun z => (by rw [o.fr a z] at h; cases h)⟩⟩, fun a h => ?_, ⟨⟨⟨[], by simp⟩, fun a h => .inl h, fun a u h _ _ => (cut_some h).1, fun a ps h _ => ⟨ps, (cut_some h).1⟩⟩, o.rs, o.eo, fun a h => cut_none h, fun a h => ?_⟩⟩
  · obtain ⟨u, e⟩ := o.rs.some h
    rw [cut_of e (o.notOwn h)]; exact fun z => by cases z
  · have h2 := o.xo.grow o.gr o.rs a h
    cases e : H a with
    | none => exact absurd e h2
    | some u => rw [cut_of e fun z => o.xo a h (o.fr a z)]; exact fun z => by cases z
theorem StOk.unbase {r1 : List Addr} {Hc : Hp} (g : Grow r0 H0 r1 Hc) (hr : ∀ a ∈ r1, Hc a ≠ none) (xo : ExO Ex H0) (o : StOk K cn Ex r1 Hc r env st s H) : StOk K cn Ex r0 H0 r env st s H := by
  refine ⟨g.trans o.gr, o.rs, o.eo, fun a h => ?_, xo⟩
  have h2 := o.fr a h
  cases e : H0 a with
  | none => rfl
  | some u =>
    by_cases hn : a ∈ r0
    · exfalso
      obtain ⟨l, el⟩ := g.pre
      exact hr a (by rw [el]; exact List.mem_append_left _ hn) h2
    · obtain ⟨o', e'⟩ := g.some_ e hn
      rw [e'] at h2; cases h2
theorem PostS.unbase {r1 : List Addr} {Hc : Hp} {x : RS} (g : Grow r0 H0 r1 Hc) (hr : ∀ a ∈ r1, Hc a ≠ none) (xo : ExO Ex H0) (p : PostS K cn W Ex r0 H0 x Dn) : PostS K cn W Ex r1 Hc x Dn := by
  cases x with
  | nx env st => exact fun r s H o => p r s H (o.unbase g hr xo)
  | rt d st => exact fun r v H gg rs rd => p r v H (g.trans gg) rs rd
  | bk env st => exact fun r s H o => p r s H (o.unbase g hr xo)
  | ct env st => exact fun r s H o => p r s H (o.unbase g hr xo)
  | exc c f env st => exact fun r s H cls dd o ex => p r s H cls dd (o.unbase g hr xo) ex
  | bad => exact p
theorem kept_cut {Ex0 : Addr → Prop} {r1 : List Addr} {st1 : Sto} (o : StOk K cn Ex r0 H0 r1 env st1 s H) (o1 : StOk K cn Ex r1 (cutH H env s) r' env' st' s' H') : Kept r1 H (exOf true env s Ex) r' H' (OwnX env' s' Ex) := by
  refine ⟨(o1.gr.kept (Ex := Ex)).1, fun b u hb hn hx ht => ?_⟩
  have hno : ¬ Own env s b ∨ Own env s b := (Classical.em _).symm
  rcases hno with hno | hno
  · have hc := cut_of hb hno
    exact ⟨o1.gr.kq b u hc hn ht, o1.gr.out hc hn, fun z => Or.elim z (fun z => by rw [o1.fr b z] at hc; cases hc) fun z => Or.inr z⟩
  · obtain ⟨i, ds, h1, h2⟩ := id hno
    obtain ⟨c, vs, q1, q2, _⟩ := o.eo.own i ds h1
    rw [h2] at q1; cases q1
    rw [hb] at q2; cases q2
    exact absurd rfl (hx (Or.inl ⟨rfl, hno⟩) _)
/-- a turn and those behind it -/
theorem forGo_ok {Ex0 : Addr → Prop} {t : Tg} {mb : MS} {ds : List D} {J : It} {g : TG} {tb : TS} {r1 : List Addr} {st1 : Sto} (o : StOk K cn Ex r0 H0 r1 env st1 s H) (it : Iter K cn (exOf true env s Ex) J r1 H ds) (hg : g = tgG K t) (htb : tb = tS K cn W mb) (p : PostS K cn W Ex r0 H0 (forGo t mb ds env st1) Dn) :
    ∃ Wt : Nat → Nat → L2.St → Hp → Prop, (∃ m, Wt 0 m s H) ∧ ∀ i m s' H', Wt i m s' H' →
      (J.stop i H' ∧ Dn.nx s' H') ∨ (J.go i H' ∧ ∃ N : L2.St → Hp → Prop, (∀ s2 H2, N s2 H2 → ∃ m', m' < m ∧ Wt (i + 1) m' s2 H2) ∧ ∀ x H2, J.yld i H' x H2 → g x s' H2 fun s3 H3 => tb { Dn with nx := N, ct := N, bk := Dn.nx } s3 H3) := by
  subst hg; subst htb
  obtain ⟨gb, hr, ob⟩ := o.base
  refine ⟨fun i m s' H' => m = ds.length - i ∧ i ≤ ds.length ∧ ∃ r' env' st', StOk K cn Ex r1 (cutH H env s) r' env' st' s' H' ∧ PostS K cn W Ex r1 (cutH H env s) (forGo t mb (ds.drop i) env' st') Dn, ⟨ds.length, by simp, Nat.zero_le _, r1, env, st1, ob, by simpa using p.unbase gb hr o.xo⟩, ?_⟩
  rintro i m s' H' ⟨rfl, hi, r', env', st', o', p'⟩
  have kk := kept_cut (Ex0 := Ex0) o o'
  by_cases hlt : i < ds.length
  · refine .inr ⟨it.go i r' H' _ kk hlt, fun s2 H2 => ∃ r' env' st', StOk K cn Ex r1 (cutH H env s) r' env' st' s2 H2 ∧ PostS K cn W Ex r1 (cutH H env s) (forGo t mb (ds.drop (i + 1)) env' st') Dn, fun s2 H2 z => ⟨ds.length - (i + 1), by omega, rfl, hlt, z⟩, fun x H2 y => ?_⟩
    obtain ⟨d, hd, g2, rs2, rd2⟩ := it.yld i r' H' _ x H2 st' kk o'.rs y hlt
    have hdrop : ds.drop i = d :: ds.drop (i + 1) := by
      have h1 := List.drop_eq_getElem_cons hlt
      rw [h1]
      have h2 := (List.getElem?_eq_some_iff.mp hd).2
      rw [h2]
    rw [hdrop] at p'
    simp only [forGo] at p'
    have o2 := o'.grow g2 rs2
    cases e3 : tgF t d env' with
    | none => rw [e3] at p'; exact p'.elim
    | some env1 =>
      rw [e3] at p'
      simp only at p'
      refine tg_rel o2.eo rd2 e3 fun s1 eo1 ow1 so1 => ?_
      have o3 : StOk K cn Ex r1 (cutH H env s) r' env1 st' s1 H2 := ⟨o2.gr, o2.rs, eo1, fun a h => o2.fr a (ow1 a h), o2.xo⟩
      refine ⟨r1, cutH H env s, r', env1, st', Ex, o3, ?_⟩
      cases e4 : mb env1 st' with
      | nx env2 st2 => rw [e4] at p'; exact fun r3 s3 H3 o4 => ⟨r3, env2, st2, o4, p'⟩
      | ct env2 st2 => rw [e4] at p'; exact fun r3 s3 H3 o4 => ⟨r3, env2, st2, o4, p'⟩
      | bk env2 st2 => rw [e4] at p'; exact fun r3 s3 H3 o4 => p' r3 s3 H3 o4
      | rt d st2 => rw [e4] at p'; exact p'
      | exc c f env2 st2 => rw [e4] at p'; exact p'
      | bad => rw [e4] at p'; exact p'
  · have ei : i = ds.length := by omega
    subst ei
    rw [List.drop_length] at p'
    exact .inl ⟨it.stop _ r' H' _ kk (Nat.le_refl _), p' r' s' H' o'⟩
theorem PostS.ofI {x : R (List D)} {k : List D → Sto → RS} {Q : It → Hp → Prop} (o : StOk K cn Ex r0 H0 r env st s H) (p : PostS K cn W Ex r0 H0 (x.stmA env k) Dn) (h : ∀ r1 ds st1 H1 J, StOk K cn Ex r0 H0 r1 env st1 s H1 → Iter K cn (exOf true env s Ex) J r1 H1 ds → PostS K cn W Ex r0 H0 (k ds st1) Dn → Q J H1) : PostI K cn W (exOf true env s Ex) x r H s Q := by
  cases x with
  | ok ds st1 => exact fun r1 H1 J g rs it => h r1 ds st1 H1 J (o.grow g rs) it p
  | exc c f st1 => exact fun r2 H2 cls dd g rs ex => p r2 s H2 cls dd (o.grow g rs) ex
  | bad => exact p
end
section
variable {X : Cx} {cn : CN} {W : WX} {pos : Pos} {tg iter e : Expr} {body : List Stmt} {t : Tg} {mi : MA} {mb : MS} {mc : ME} {k : Nat}
theorem ss_for (c : Ctx X W k) (hi : SndI X cn W true tg iter mi) (hg : PG X tg (tgG X.K t)) (hb : SndSs X cn W body mb) (hs : ∀ x, foldedSetIterable iter X.env x = pure x := by intro _; rfl) : SndS X cn W (.For tg iter body [] pos) (mFor mi t mb) :=
  ps_imp (ps_for c.po c.calm hi hg hb hs) fun Dn s H ⟨r0, H0, r, env, st, Ex, o, p⟩ =>
    ⟨r, env, st, _, o.at_, PostS.ofI o p fun r1 ds st1 H1 J o1 it p1 => forGo_ok (Ex0 := Ex) o1 it rfl rfl p1⟩
/-- over an own list: from then on it stands -/
def mForOwn (i : Nat) (t : Tg) (mb : MS) : MS := fun env st => match env[i]? with
  | some (.own xs) => forGo t mb xs (env.set i (.val (.lst xs))) st
  | _ => .bad
theorem StOk.freeze {K : PySem.W.Frag} {Ex : Addr → Prop} {r0 r : List Addr} {H0 H : Hp} {env : SEnv} {s : L2.St} {st : Sto} {i : Nat} {ds : List D} (o : StOk K cn Ex r0 H0 r env st s H) (hi : env[i]? = some (.own ds)) :
    StOk K cn Ex r0 H0 r (env.set i (.val (.lst ds))) st s H ∧ ∃ a vs, s[i]? = some (some (.ref a)) ∧ H a = some (.lst vs) ∧ a ∉ r ∧ ¬ OwnX (env.set i (.val (.lst ds))) s Ex a ∧ RDs K r H (OwnX (env.set i (.val (.lst ds))) s Ex) vs ds := by
  obtain ⟨a, vs, h1, h2, h3, h4⟩ := o.eo.own i ds hi
  have hx : ∀ b, Own (env.set i (.val (.lst ds))) s b → Own env s b ∧ b ≠ a := fun b ⟨j, es, q1, q2⟩ => by
    rcases set_get q1 with ⟨_, z⟩ | ⟨hn, q3⟩
    · cases z
    · exact ⟨⟨j, es, q3, q2⟩, fun e => hn (o.eo.inj i j ds es a hi q3 h1 (by rw [← e]; exact q2))⟩
  have hk : ∀ b, OwnX (env.set i (.val (.lst ds))) s Ex b → OwnX env s Ex b := fun b z => Or.elim z (fun z => Or.inl (hx b z).1) Or.inr
  have ha : ¬ OwnX (env.set i (.val (.lst ds))) s Ex a := fun z => Or.elim z (fun z => (hx a z).2 rfl) fun z => o.xo a z (o.fr a ⟨i, ds, hi, h1⟩)
  have h5 := h4.kept (kept_ex hk)
  refine ⟨⟨o.gr, o.rs, ⟨by rw [List.length_set]; exact o.eo.len, fun j d h => ?_, fun j fs h => ?_, fun j k ds2 es2 b e1 e2 e3 e4 => ?_⟩, fun b h => o.fr b (hx b h).1, o.xo⟩, a, vs, h1, h2, h3, ha, h5⟩
  · rcases set_get h with ⟨e, q⟩ | ⟨_, h⟩
    · subst e; cases q
      exact ⟨_, h1, .lst h2 h3 ha h5⟩
    · obtain ⟨v, q1, q2⟩ := o.eo.val j d h
      exact ⟨v, q1, q2.kept (kept_ex hk)⟩
  · rcases set_get h with ⟨_, q⟩ | ⟨_, h⟩
    · cases q
    · obtain ⟨b, ws, q1, q2, q3, q4⟩ := o.eo.own j fs h
      exact ⟨b, ws, q1, q2, q3, q4.kept (kept_ex hk)⟩
  · rcases set_get e1 with ⟨_, q⟩ | ⟨_, f1⟩
    · cases q
    · rcases set_get e2 with ⟨_, q⟩ | ⟨_, f2⟩
      · cases q
      · exact o.eo.inj j k ds2 es2 b f1 f2 e3 e4
theorem ss_forOwn {i : Nat} {x : Str} {px : Pos} (c : Ctx X W k) (hN : X.N[i]? = some x) (hv : Vis X.env.scope x) (hg : PG X tg (tgG X.K t)) (hb : SndSs X cn W body mb) (hd : (x == ("__debug__" : Str)) = false := by decide) (hcd : (x == ("__classdict__" : Str)) = false := by decide) (hs : ∀ v, foldedSetIterable (.Name x px) X.env v = pure v := by intro _; rfl) :
    SndS X cn W (.For tg (.Name x px) body [] pos) (mForOwn i t mb) := ps_imp (ps_for c.po c.calm (pi_list (pe_var hN hv hd hcd)) hg hb hs) fun Dn s H ⟨r0, H0, r, env, st, Ex, o, p⟩ => by
  obtain ⟨xs, hi, p⟩ := ownAt p
  obtain ⟨o1, a, vs, h1, h2, h3, h4, h5⟩ := o.freeze hi
  have hx : ∀ b, exOf true (env.set i (.val (.lst xs))) s Ex b → OwnX (env.set i (.val (.lst xs))) s Ex b := fun b z => Or.elim z (fun z => Or.inl z.2) Or.inr
  exact ⟨_, h1, a, rfl, ⟨vs, .inl (.inl h2)⟩, forGo_ok (Ex0 := Ex) o1 (iter_list (.inl h2) h3 (fun z => h4 (hx a z)) (h5.kept (kept_ex hx))) rfl rfl p⟩
theorem ss_while {n : Nat} (c : Ctx X W k) (hc : SndT X cn W false e mc) (hb : SndSs X cn W body mb) : SndS X cn W (.While e body [] pos) (mWhile n mc mb) := ps_imp (ps_while c.po hc hb) fun Dn s H ⟨r0, H0, r, env, st, Ex, o, p⟩ => by
  refine ⟨fun m s' H' => ∃ r' env' st', StOk X.K cn Ex r0 H0 r' env' st' s' H' ∧ PostS X.K cn W Ex r0 H0 (whileGo mc mb m env' st') Dn, ⟨n, r, env, st, o, p⟩, ?_⟩
  rintro m s' H' ⟨r', env', st', o', p'⟩
  cases m with
  | zero => exact p'.elim
  | succ m =>
    refine ⟨r', env', st', _, o'.at_ (cl := false), (PostS.ofT o' p').mono fun b H1 ⟨r1, st1, g, o1, p1⟩ => ?_⟩
    cases b with
    | false => exact p1 r1 s' H1 o1
    | true =>
      simp only [if_true] at p1 ⊢
      refine ⟨fun s2 H2 => ∃ r' env' st', StOk X.K cn Ex r0 H0 r' env' st' s2 H2 ∧ PostS X.K cn W Ex r0 H0 (whileGo mc mb m env' st') Dn, fun s2 H2 z => ⟨m, Nat.lt_succ_self _, z⟩, r0, H0, r1, env', st1, Ex, o1, ?_⟩
      cases e4 : mb env' st1 with
      | nx env2 st2 => rw [e4] at p1; exact fun r3 s3 H3 o4 => ⟨r3, env2, st2, o4, p1⟩
      | ct env2 st2 => rw [e4] at p1; exact fun r3 s3 H3 o4 => ⟨r3, env2, st2, o4, p1⟩
      | bk env2 st2 => rw [e4] at p1; exact fun r3 s3 H3 o4 => p1 r3 s3 H3 o4
      | rt d st2 => rw [e4] at p1; exact p1
      | exc c f env2 st2 => rw [e4] at p1; exact p1
      | bad => rw [e4] at p1; exact p1
end
end Fx

namespace Fx
open PySem PySem.Spec PyProof.Rows L2

/-! ## own exceptions without fields: raised, held as values -/
structure ExcF (K : PySem.W.Frag) (mg : Str → Option Value) (x : Str) : Prop where
  gl : mg x = some (.ref (He.ga K x))
  ex : ∃ (bm : List Value) (B n i : String), ExcBaseFacts B n i bm ∧ PySem.W.excIn K (He.ga K x) bm n = true
  kp : PySem.W.keepIn K (.ref (He.ga K x)) = true
  sb : PySem.W.subIn K (.ref (He.ga K x)) (.type "BaseException") = some true
  ty : PySem.W.typeIn K (.ref (He.ga K x)) = some (.type "type")
def mRaise (c : Nat) : MS := fun env st => .exc c [] env st
def eErr (x : Str) : ME := fun _ st => .ok (.err x) st
section
variable {X : Cx} {cn : CN} {W : WX} {cl : Bool} {pos p p2 p3 : Pos} {c j k : Nat} {x m : Str}
theorem ss_raise (C : Ctx X W k) (F : ExcF X.K X.mg x) (hc : cn c = x) (hg : Gl X x) (hdb : (x == ("__debug__" : Str)) = false := by decide) : SndS X cn W (.Raise (some (.Call (.Name x p) [.Constant (.str m) j p2] [] p3)) none pos) (mRaise c) := by
  obtain ⟨bm, B, n, i, F1, F2⟩ := F.ex
  refine ps_imp (ps_raise C.calm C.tk (pmk_own (pos := p3) F1 F2 F.gl F.kp (raises_own F.sb F.ty) hg hdb)) fun Dn s H ⟨r0, H0, r, env, st, Ex, o, p⟩ => ?_
  exact p r s H _ none o ⟨by rw [← hc]; rfl, .inl ⟨rfl, rfl⟩⟩
theorem se_err (F : ExcF X.K X.mg x) (hg : Gl X x) (hdb : (x == ("__debug__" : Str)) = false := by decide) : SndE X cn W cl (.Call (.Name x p) [.Constant (.str m) j p2] [] pos) (eErr x) := by
  obtain ⟨bm, B, n, i, F1, F2⟩ := F.ex
  refine pe_imp (pe_exc1 F1 F2 F.gl F.kp hg (pe_str (j := j) (pos := p2)) rfl hdb) fun s H Q ⟨r, env, st, Ex, at_, p⟩ => ?_
  intro a ha
  exact p r _ _ (Grow.lay ha) (at_.rs.lay ha) (.err upd_same (at_.rs.out ha))
end

/-! ## instances -/
def insOf (d : D) (st : Sto) : Option (Nat × Nat × List (Str × D)) := match d with
  | .obj n => (match st[n]? with
    | some (.ins c fs) => some (n, c, fs)
    | _ => none)
  | _ => none
theorem lookup_zip {K : PySem.W.Frag} {r : List Addr} {H : Hp} {Ex : Addr → Prop} {f : Str} : ∀ {fs : List (Str × D)} {vs : List V}, fs.length = vs.length → RDs K r H Ex vs (fs.map (·.2)) → (∀ d, fs.lookup f = some d → ∃ v, ((fs.map (·.1)).zip vs).lookup f = some v ∧ RD K r H Ex v d) ∧ (fs.lookup f = none → ((fs.map (·.1)).zip vs).lookup f = none)
  | [], [], _, _ => ⟨fun d h => (by cases h), fun _ => rfl⟩
  | (g, d) :: fs, v :: vs, hl, .cons h hs => by
    obtain ⟨i1, i2⟩ := lookup_zip (f := f) (fs := fs) (vs := vs) (by simpa using hl) hs
    by_cases e : f = g
    · subst e
      have hb : (f == f) = true := beq_iff_eq.mpr rfl
      refine ⟨fun d' h' => ?_, fun h' => ?_⟩
      · simp only [List.lookup, hb] at h'
        cases h'
        exact ⟨v, by simp [List.lookup], h⟩
      · simp only [List.lookup, hb] at h'; cases h'
    · have hb : (f == g) = false := beq_eq_false_iff_ne.mpr e
      refine ⟨fun d' h' => ?_, fun h' => ?_⟩
      · simp only [List.lookup, hb] at h'
        obtain ⟨w, h1, h2⟩ := i1 d' h'
        exact ⟨w, by simp only [List.map_cons, List.zip_cons_cons, List.lookup, hb]; exact h1, h2⟩
      · simp only [List.lookup, hb] at h'
        simp only [List.map_cons, List.zip_cons_cons, List.lookup, hb]; exact i2 h'
section
variable {K : PySem.W.Frag} {cn : CN} {Ex : Addr → Prop} {r : List Addr} {H : Hp} {st : Sto} {v : V} {d : D} {n c : Nat} {fs : List (Str × D)}
theorem ins_at (rs : RelSt K cn r st H) (rd : RD K r H Ex v d) (h : insOf d st = some (n, c, fs)) : d = .obj n ∧ st[n]? = some (.ins c fs) ∧ ∃ a dx vs, v = .ref a ∧ r[n]? = some a ∧ H a = some (.ins (ca K cn c) dx ((fs.map (·.1)).zip vs)) ∧ fs.length = vs.length ∧ RDs K r H All vs (fs.map (·.2)) := by
  cases rd with
  | obj hr =>
    simp only [insOf] at h
    split at h
    · rename_i c2 fs2 e
      cases h
      obtain ⟨dx, vs, h1, h2, h3⟩ := rs.ok _ _ _ e hr
      exact ⟨rfl, e, _, dx, vs, rfl, hr, h1, h2, h3⟩
    · cases h
  | _ => cases h
end
/-! ### a field, read -/
def fFld (fl : Nat → Bool) (f : Str) (d : D) (st : Sto) : R D := match insOf d st with
  | some (_, c, fs) => if fl c = true then (match fs.lookup f with
    | some d => .ok d st
    | none => .bad) else .bad
  | none => .bad
abbrev FldOk (K : PySem.W.Frag) (cn : CN) (fl : Nat → Bool) (f : Str) : Prop := ∀ c, fl c = true → Cls K (ca K cn c) ∧ NoAttr K (ca K cn c) f
section
variable {X : Cx} {cn : CN} {W : WX} {cl : Bool} {pos p p2 p3 pos' : Pos} {c j k : Nat} {x m f : Str} {e o : Expr} {es : List Expr} {me mo : ME} {ma : MA} {fl : Nat → Bool}
theorem se_fld (hf : FldOk X.K cn fl f) (he : SndE X cn W cl e me) (hb : attributeBase e f X.env (eval e X.env) = eval e X.env := by rfl) : SndE X cn W cl (.Attribute e f pos) (eUn (fFld fl f) me) :=
  pe_imp (pe_fld he hb) fun s H Q ⟨r, env, st, Ex, at_, p⟩ => tM_at at_ ((PostE.bind p).mono fun v H1 ⟨r1, d, st1, g, rs, rd, p1⟩ => by
    unfold fFld at p1
    cases e : insOf d st1 with
    | none => rw [e] at p1; exact p1.elim
    | some z =>
      obtain ⟨n, c, fs⟩ := z
      rw [e] at p1
      simp only at p1
      by_cases hz : fl c = true
      · rw [if_pos hz] at p1
        obtain ⟨h1, h2⟩ := hf c hz
        obtain ⟨_, _, a, dx, vs, ev, _, ha, hl, hs⟩ := ins_at rs rd e
        cases e2 : fs.lookup f with
        | none => rw [e2] at p1; exact p1.elim
        | some d2 =>
          rw [e2] at p1
          obtain ⟨w, h3, h4⟩ := (lookup_zip (f := f) hl hs).1 d2 e2
          exact ⟨a, _, dx, _, w, ev, ha, h1, h2, h3, PostE.here p1 rs h4.any⟩
      · rw [if_neg hz] at p1; exact p1.elim)

/-! ### a field, set -/
def putFD (f : Str) (v : D) : List (Str × D) → List (Str × D)
  | [] => [(f, v)]
  | (g, x) :: r => if g = f then (g, v) :: r else (g, x) :: putFD f v r
theorem putFD_len (f : Str) (v : D) : ∀ fs : List (Str × D), (putFD f v fs).length ≤ fs.length + 1
  | [] => by simp [putFD]
  | (g, x) :: r => by
    unfold putFD
    split
    · simp
    · simp; exact putFD_len f v r
theorem putFD_zip {K : PySem.W.Frag} {r : List Addr} {H : Hp} {Ex : Addr → Prop} {f : Str} {y : V} {d : D} (hd : RD K r H Ex y d) : ∀ {fs : List (Str × D)} {vs : List V}, fs.length = vs.length → RDs K r H Ex vs (fs.map (·.2)) →
    ∃ ws, putF f y ((fs.map (·.1)).zip vs) = (((putFD f d fs).map (·.1)).zip ws) ∧ (putFD f d fs).length = ws.length ∧ RDs K r H Ex ws ((putFD f d fs).map (·.2))
  | [], [], _, _ => ⟨[y], rfl, rfl, .cons hd .nil⟩
  | (g, e) :: fs, v :: vs, hl, .cons h hs => by
    by_cases q : g = f
    · exact ⟨y :: vs, by simp [putF, putFD, q], by simp [putFD, q]; simpa using hl, by simp only [putFD, q, if_true]; exact .cons hd hs⟩
    · obtain ⟨ws, h1, h2, h3⟩ := putFD_zip (f := f) hd (fs := fs) (vs := vs) (by simpa using hl) hs
      refine ⟨v :: ws, ?_, by simp [putFD, q, h2], by simp only [putFD, q, if_false]; exact .cons h h3⟩
      simp only [List.map_cons, List.zip_cons_cons, putF, putFD, q, if_false, h1]
/-- o.f = e -/
def mFld (fl : Nat → Bool) (f : Str) (mo me : ME) : MS := fun env st => (me env st).stm env fun d st1 => (mo env st1).stm env fun x st2 => match insOf x st2 with
  | some (n, c, fs) => if (fl c && (noLst d && decide (fs.length < 1000))) = true then .nx env (st2.set n (.ins c (putFD f d fs))) else .bad
  | none => .bad
theorem ss_fld (hf : FldOk X.K cn fl f) (ho : SndE X cn W true o mo) (he : SndE X cn W true e me) (hs : swapsWith e (some (.Attribute o f pos')) pos.line X.env = pure false := by rfl) : SndS X cn W (.Assign [.Attribute o f pos'] e pos) (mFld fl f mo me) :=
  ps_imp (ps_fld ho he hs) fun Dn s H ⟨r0, H0, r, env, st, Ex, oo, p⟩ => tM_at oo.at_ ((PostS.ofE oo p).mono fun y H1 ⟨r1, d, st1, g1, o1, rd1, p1⟩ => tM_at o1.at_ ((PostS.ofE o1 p1).mono fun v H2 ⟨r2, d2, st2, g2, o2, rd2, p2⟩ => by
    cases e : insOf d2 st2 with
    | none => rw [e] at p2; exact p2.elim
    | some z =>
      obtain ⟨n, c, fs⟩ := z
      rw [e] at p2
      simp only at p2
      by_cases hz : (fl c && (noLst d && decide (fs.length < 1000))) = true
      · rw [if_pos hz] at p2
        obtain ⟨z1, z2⟩ := Bool.and_eq_true_iff.mp hz
        obtain ⟨z2, z3⟩ := Bool.and_eq_true_iff.mp z2
        obtain ⟨h1, h2⟩ := hf c z1
        obtain ⟨_, hst, a, dx, vs, ev, hr, ha, hl, hs⟩ := ins_at o2.rs rd2 e
        refine ⟨a, _, dx, _, ev, ha, h1, h2, ?_, ?_⟩
        · rw [List.length_zip, List.length_map]
          exact Nat.lt_of_le_of_lt (Nat.min_le_left _ _) (of_decide_eq_true z3)
        · obtain ⟨ws, q1, q2, q3⟩ := putFD_zip (f := f) ((g2.rd rd1).free (Ex' := All) z2) hl hs
          rw [q1]
          exact p2 r2 s _ (o2.grow (Grow.write hr) (o2.rs.write hr fun H' k e' => ⟨dx, ws, e', q2, q3.kept k⟩))
      · rw [if_neg hz] at p2; exact p2.elim))

/-! ### made -/
structure ClsI (P : Program) (w : World) (K : PySem.W.Frag) (mg : Str → Option Value) (base : Heap) (cn : CN) (x : Str) (c k : Nat) (sem : FS) : Prop where
  ex : ∃ f : Addr, mg x = some (.ref (ca K cn c)) ∧ Mk K (ca K cn c) f ∧ FnT P w K mg base cn f k sem
theorem run_makeA {pins : List (Addr × Obj)} {σ : L2.St} {H : Hp} {s : Shared} {CX : CXT} {sp : Sp} {E : XK} {Q : VK} {us : List Value} {vs : List V} {C f : Addr} (M : Mk X.K C f) (F : FnR X.prog X.w X.K X.mg X.base CX k f sp) (hr : Room (k + 1) X.A)
    (hx : PassesAt CX X σ E) (I : Inv X pins σ H s) (r : Vals vs us)
    (h : ∀ x dx, H x = none → H dx = none → dx ≠ x → sp (.ref x :: vs) (upd (upd H dx (.own x)) x (.ins C dx [])) (fun v H2 => v = .non ∧ Q (.ref x) H2) E) :
    wpAny (model X.prog X.w) X.A (call (.ref C) us) (EP X pins σ Q) X.xe s := by
  have hq := h (s.heap.objs.size + 1) s.heap.objs.size (I.hok.fresh (Nat.le_succ _)) (I.hok.fresh (Nat.le_refl _)) (Nat.ne_of_lt (Nat.lt_succ_self _))
  have I2 := Inv.made (C := C) I
  refine wpAny_call (make_map (f := f) I.kIn M.makes M.init (beq_iff_eq.mp M.fn) (codeAny_mono (F _ X.stack _ _ (Value.ref (s.heap.objs.size + 1) :: us) (V.ref (s.heap.objs.size + 1) :: vs) _ E (hr.make C us [])
    (I2.env0.make C us []) (.cons rfl r) hq) fun r s' hq' => ?_))
  cases r with
  | error e => exact hx pins _ _ e s' I2 hq'
  | ok fl =>
    cases fl with
    | ret u =>
      obtain ⟨v, H', I3, rv, ev, q3⟩ := I2.after hq'
      subst ev
      exact ⟨rv, ⟨V.ref (s.heap.objs.size + 1), H', I3, rfl, q3⟩⟩
    | next => exact False.elim hq'
    | brk => exact False.elim hq'
    | cont => exact False.elim hq'
def fMake (c : Nat) (sem : FS) : FS := fun xs st => match sem (.obj st.length :: xs) (st ++ [.ins c []]) with
  | .ok .non st2 => .ok (.obj st.length) st2
  | .exc c f st2 => .exc c f st2
  | _ => .bad
theorem make_at {K : PySem.W.Frag} {Ex : Addr → Prop} {r : List Addr} {st : Sto} {H : Hp} {vs : List V} {ds : List D} {s : L2.St} {Q : VK} {sem : FS} (rs : RelSt K cn r st H) (xo : ExO Ex H) (rd : RDs K r H Ex vs ds) (p : PostE K cn W Ex (fMake c sem ds st) r H s Q) :
    ∀ x dx, H x = none → H dx = none → dx ≠ x → spOf K cn sem (.ref x :: vs) (upd (upd H dx (.own x)) x (.ins (ca K cn c) dx [])) (fun v H2 => v = .non ∧ Q (.ref x) H2) (WE W s) := by
  intro x dx hx hd hne
  have g1 := Grow.lay (r := r) (o := .own x) hd
  have rs1 := rs.lay (o := .own x) hd
  have hx1 : upd H dx (.own x) x = none := by rw [upd_ne (fun z => hne z.symm)]; exact hx
  have g2 := Grow.push (r := r) (o := .ins (ca K cn c) dx []) hx1
  have rs2 := rs1.push (mo := .ins c []) (o := .ins (ca K cn c) dx []) hx1 fun H' k e => ⟨dx, [], e, rfl, .nil⟩
  have g := g1.trans g2
  have hn : (r ++ [x])[st.length]? = some x := by rw [← rs.len, List.getElem?_append_right (Nat.le_refl _), Nat.sub_self]; rfl
  refine ⟨r ++ [x], .obj st.length :: ds, st ++ [.ins c []], Ex, rs2, (xo.grow g1 rs1).grow g2 rs2, .cons (.obj hn) (g.rds rd), ?_⟩
  unfold fMake at p
  cases e : sem (.obj st.length :: ds) (st ++ [.ins c []]) with
  | bad => rw [e] at p; exact p.elim
  | exc c2 f2 st2 => rw [e] at p; exact fun r' H' cls dd gg rs' ex => p r' H' cls dd (g.trans gg) rs' ex
  | ok d st2 =>
    rw [e] at p
    cases d with
    | non =>
      intro r' v H' gg rs' rd'
      cases rd'
      exact ⟨rfl, p r' (.ref x) H' (g.trans gg) rs' (.obj ((gg.kept (Ex := Nil)).1 _ _ hn))⟩
    | _ => exact p.elim
variable {sem : FS}
theorem make_atA {s : L2.St} {H : Hp} {Q : VK} (h : tM X.K cn W cl (eCall (fMake c sem) ma) s H Q) : tMA X.K cn W cl ma s H fun vs H1 => ∀ x dx, H1 x = none → H1 dx = none → dx ≠ x → spOf X.K cn sem (.ref x :: vs) (upd (upd H1 dx (.own x)) x (.ins (ca X.K cn c) dx [])) (fun v H2 => v = .non ∧ Q (.ref x) H2) (WE W s) := by
  obtain ⟨r, env, st, Ex, at_, p⟩ := h
  exact tMA_at at_ ((PostE.bindA p).mono fun vs H2 ⟨r3, ds3, st3, g3, rs3, rd3, p3⟩ => make_at rs3 (at_.grow g3 rs3).xo rd3 p3)
theorem se_make (F : ClsI X.prog X.w X.K X.mg X.base cn x c k sem) (tk : Takes X W) (hr : Room (k + 1) X.A) (hg : Gl X x) (ha : SndA X cn W cl (e :: es) ma)
    (hdb : (x == ("__debug__" : Str)) = false := by decide) (he : starEach (e :: es) X.env = (false, eval e X.env) :: starEach es X.env := by rfl) (hpl : (backTo pos (starEach es X.env)).any (·.1) = false := by rfl) :
    SndE X cn W cl (.Call (.Name x p) (e :: es) [] pos) (eCall (fMake c sem) ma) := by
  obtain ⟨f, h1, M, h2⟩ := F.ex
  refine ⟨fun pins s σ H Q I h => ?_⟩
  refine wpAny_Call_Name_kw (ld_glob I hg h1 ?_ hdb)
  refine PySem.W.callWith_K (h₀ := X.base) I.ok.mod.kin M.kp (thn (ha.run pos pins s σ H _ I (make_atA h)) fun us s1 ⟨vs, H1, I1, r, q⟩ => ⟨I1.kIn, ?_⟩) he hpl
  exact run_makeA M h2.run hr (passAt tk σ) I1 r q
theorem se_make0 (F : ClsI X.prog X.w X.K X.mg X.base cn x c k sem) (tk : Takes X W) (hr : Room (k + 1) X.A) (hg : Gl X x) (hdb : (x == ("__debug__" : Str)) = false := by decide) :
    SndE X cn W cl (.Call (.Name x p) [] [] pos) (eCall (fMake c sem) aNil) := by
  obtain ⟨f, h1, M, h2⟩ := F.ex
  refine ⟨fun pins s σ H Q I h => ?_⟩
  refine wpAny_Call_Name_kw (ld_glob I hg h1 ?_ hdb)
  obtain ⟨r, env, st, Ex, at_, p⟩ := h
  exact PySem.W.callWith_K0 I.kIn M.kp (run_makeA (us := []) (vs := []) M h2.run hr (passAt tk σ) I .nil (make_at at_.rs at_.xo .nil p))
/-- the items of a list or tuple, handed on -/
def aStar (m : ME) : MA := fun env st => (m env st).bind fun d st1 => match d with
  | .tup ds => .ok ds st1
  | d => match lsOf st1 d with
    | some ds => .ok ds st1
    | none => .bad
theorem star_at {s : L2.St} {H : Hp} {Q : List V → Hp → Prop} (h : tMA X.K cn W cl (aStar me) s H Q) : tM X.K cn W cl me s H fun v H1 => ∃ a xs, v = .ref a ∧ (SqT X.K H1 a xs ∨ SqL X.K H1 a xs) ∧ Q xs H1 := by
  obtain ⟨r, env, st, Ex, at_, p⟩ := h
  refine tM_at at_ ((PostA.bind p).mono fun v H1 ⟨r1, d, st1, g, rs, rd, p1⟩ => ?_)
  have rest : ∀ {d : D}, RD X.K r1 H1 Ex v d → PostA X.K cn W Ex (match lsOf st1 d with
      | some ds => .ok ds st1
      | none => .bad) r1 H1 s Q → ∃ a xs, v = .ref a ∧ (SqT X.K H1 a xs ∨ SqL X.K H1 a xs) ∧ Q xs H1 := fun {d} rd q => by
    cases e2 : lsOf st1 d with
    | none => rw [e2] at q; exact q.elim
    | some es =>
      rw [e2] at q
      obtain ⟨a, ws, h1, h2, h3⟩ := ls_at rs rd e2
      exact ⟨a, ws, h1, .inr h2, q r1 ws H1 Grow.refl rs h3⟩
  cases d with
  | tup ds =>
    obtain ⟨a, ws, h1, h2, h3⟩ := tu_at rd
    exact ⟨a, ws, h1, .inl h2, p1 r1 ws H1 Grow.refl rs h3⟩
  | _ => exact rest rd p1
theorem se_makeS (F : ClsI X.prog X.w X.K X.mg X.base cn x c k sem) (tk : Takes X W) (hr : Room (k + 1) X.A) (hg : Gl X x) (he : SndE X cn W cl e me) (hdb : (x == ("__debug__" : Str)) = false := by decide) (hs : starEach [.Starred e p2] X.env = [(true, eval e X.env)] := by rfl) :
    SndE X cn W cl (.Call (.Name x p) [.Starred e p2] [] pos) (eCall (fMake c sem) (aStar me)) := by
  obtain ⟨f, h1, M, h2⟩ := F.ex
  refine ⟨fun pins s σ H Q I h => ?_⟩
  refine wpAny_Call_Name_kw (ld_glob I hg h1 ?_ hdb)
  refine PySem.W.callWith_S (h₀ := X.base) I.ok.mod.kin M.kp (thn (he.run pins s σ H _ I (star_at (make_atA h))) fun u s1 ⟨v, H1, I1, r, a, xs, ev, hx, q⟩ => ?_) hs
  subst ev
  obtain rfl : u = Value.ref a := r
  exact StX.star_any I1 hx fun us s2 I2 rv => ⟨I2.kIn, run_makeA M h2.run hr (passAt tk σ) I2 rv q⟩

/-! ### methods -/
abbrev MethOk (P : Program) (w : World) (K : PySem.W.Frag) (mg : Str → Option Value) (base : Heap) (cn : CN) (m : Str) (k : Nat) (M : Nat → Option FS) : Prop :=
  ∀ c sem, M c = some sem → ∃ f, Cls K (ca K cn c) ∧ Meth K (ca K cn c) m f ∧ FnT P w K mg base cn f k sem
def eMeth (m : Str) (M : Nat → Option FS) (mo : ME) (ma : MA) : ME := fun env st => (mo env st).bind fun d st1 => match insOf d st1 with
  | some (n, c, fs) => (match M c, fs.lookup m with
    | some sem, none => (ma env st1).bind fun xs st2 => sem (.obj n :: xs) st2
    | _, _ => .bad)
  | none => .bad
theorem se_meth {M : Nat → Option FS} {apos : Pos} {pl : Sem Bool} (hM : MethOk X.prog X.w X.K X.mg X.base cn m k M) (tk : Takes X W) (hr : Room k X.A) (ho : SndE X cn W cl o mo) (ha : SndA X cn W cl (e :: es) ma)
    (hst : starEach (e :: es) X.env = (false, eval e X.env) :: starEach es X.env := by rfl) (hpl : (backTo pos (starEach es X.env)).any (·.1) = false := by rfl)
    (ht : eval (.Call (.Attribute o m apos) (e :: es) [] pos) X.env = (do
      let ov ← eval o X.env
      standAt apos.atName
      let (f, first) ← holding [ov] (getMethod ov m pl)
      callWith pos f first (backTo pos (starEach (e :: es) X.env)) (backToKw pos (keywordEach [] X.env))) := by rfl) :
    SndE X cn W cl (.Call (.Attribute o m apos) (e :: es) [] pos) (eMeth m M mo ma) := by
  refine ⟨fun pins s σ H Q I h => ?_⟩
  obtain ⟨r, env, st, Ex, at_, p⟩ := h
  refine PySem.W.methodCall_KW (pl := pl) (thn (ho.run pins s σ H _ I (tM_at at_ (PostE.bind p))) fun u s1 ⟨v, H1, I1, rv, r1, d, st1, g1, rs1, rd1, p1⟩ => ?_) ht
  cases e1 : insOf d st1 with
  | none => rw [e1] at p1; exact p1.elim
  | some z =>
    obtain ⟨n, c, fs⟩ := z
    rw [e1] at p1
    obtain ⟨_, hst2, a, dx, vs, ev, hrn, ha1, hl, hs⟩ := ins_at rs1 rd1 e1
    simp only at p1
    cases e2 : M c with
    | none => simp only [e2] at p1; exact p1.elim
    | some sem =>
      cases e3 : fs.lookup m with
      | some _ => simp only [e2, e3] at p1; exact p1.elim
      | none =>
        simp only [e2, e3] at p1
        obtain ⟨f, hC, hMe, F⟩ := hM c sem e2
        subst ev
        obtain rfl : u = Value.ref a := rv
        refine getmeth_ok I1 ha1 hC hMe ((lookup_zip hl hs).2 e3) ?_
        refine PySem.W.callWith_K (first := [.ref a]) (h₀ := X.base) I.ok.mod.kin hMe.kp (thn (ha.run pos pins s1 σ H1 _ I1 (tMA_at (at_.grow g1 rs1) (PostE.bindA p1))) fun us s2 ⟨ws, H2, I2, r2, q⟩ => ⟨I2.kIn, ?_⟩) hst hpl
        obtain ⟨r3, ds3, st3, g3, rs3, rd3, p3⟩ := q
        exact run_fnA (us := .ref a :: us) (vs := .ref a :: ws) F.run hr (passAt tk σ) I2 (.cons rfl r2) ⟨r3, .obj n :: ds3, st3, Ex, rs3, ((at_.grow g1 rs1).grow g3 rs3).xo, .cons (.obj ((g3.kept (Ex := Ex)).1 _ _ hrn)) rd3, p3.slots fun _ _ _ z => z⟩
theorem se_meth0 {M : Nat → Option FS} {apos : Pos} {pl : Sem Bool} (hM : MethOk X.prog X.w X.K X.mg X.base cn m k M) (tk : Takes X W) (hr : Room k X.A) (ho : SndE X cn W cl o mo)
    (ht : eval (.Call (.Attribute o m apos) [] [] pos) X.env = (do
      let ov ← eval o X.env
      standAt apos.atName
      let (f, first) ← holding [ov] (getMethod ov m pl)
      callWith pos f first (backTo pos (starEach [] X.env)) (backToKw pos (keywordEach [] X.env))) := by rfl) :
    SndE X cn W cl (.Call (.Attribute o m apos) [] [] pos) (eMeth m M mo aNil) := by
  refine ⟨fun pins s σ H Q I h => ?_⟩
  obtain ⟨r, env, st, Ex, at_, p⟩ := h
  refine PySem.W.methodCall_KW (pl := pl) (thn (ho.run pins s σ H _ I (tM_at at_ (PostE.bind p))) fun u s1 ⟨v, H1, I1, rv, r1, d, st1, g1, rs1, rd1, p1⟩ => ?_) ht
  cases e1 : insOf d st1 with
  | none => rw [e1] at p1; exact p1.elim
  | some z =>
    obtain ⟨n, c, fs⟩ := z
    rw [e1] at p1
    obtain ⟨_, hst2, a, dx, vs, ev, hrn, ha1, hl, hs⟩ := ins_at rs1 rd1 e1
    simp only at p1
    cases e2 : M c with
    | none => simp only [e2] at p1; exact p1.elim
    | some sem =>
      cases e3 : fs.lookup m with
      | some _ => simp only [e2, e3] at p1; exact p1.elim
      | none =>
        simp only [e2, e3] at p1
        obtain ⟨f, hC, hMe, F⟩ := hM c sem e2
        subst ev
        obtain rfl : u = Value.ref a := rv
        refine getmeth_ok I1 ha1 hC hMe ((lookup_zip hl hs).2 e3) ?_
        have p2 : PostE X.K cn W Ex (sem [.obj n] st1) r1 H1 σ Q := p1
        exact PySem.W.callWith_K0 (first := [.ref a]) I1.kIn hMe.kp (run_fnA (us := [.ref a]) (vs := [.ref a]) F.run hr (passAt tk σ) I1 (.cons rfl .nil) ⟨r1, [.obj n], st1, Ex, rs1, (at_.grow g1 rs1).xo, .cons (.obj hrn) .nil, p2.slots fun _ _ _ z => z⟩)
/-- v in o, o an own instance: no exception is let out -/
def fIn (M : Nat → Option FS) (neg : Bool) (v o : D) (st : Sto) : R D := match insOf o st with
  | some (n, c, _) => (match M c with
    | some sem => (match sem [.obj n, v] st with
      | .ok (.bl b) st2 => .ok (.bl (b != neg)) st2
      | _ => .bad)
    | none => .bad)
  | none => .bad
def rInO (P : Program) (w : World) (K : PySem.W.Frag) (mg : Str → Option Value) (base : Heap) (cn : CN) (k : Nat) (M : Nat → Option FS) (neg : Bool) : R2 := fun x y H Q => ∃ a C dx fs f sem, y = .ref a ∧ H a = some (.ins C dx fs) ∧ Meth K C "__contains__" f ∧ FnT P w K mg base cn f k sem ∧ spOf K cn sem [.ref a, x] H (fun v H2 => ∃ b, v = .bl b ∧ Q (.bl (b != neg)) H2) (fun _ _ _ => False)
theorem passes_nil {σ : L2.St} : PassesAt (L2.CX X.prog X.w) X σ (fun _ _ _ => False) := fun _ _ _ _ _ _ ⟨_, _, _, _, _, _, _, _, _, _, _, _, z⟩ => z.elim
theorem op_inO {M : Nat → Option FS} (hr : Room k X.A) : OpR X (compareOp .In) (rInO X.prog X.w X.K X.mg X.base cn k M false) := by
  intro pins s σ H x y v u Q I rx ry h
  obtain ⟨a, C, dx, fs, f, sem, rfl, ha, hMe, F, q⟩ := h
  cases ry
  obtain ⟨m0, hfr⟩ := I.fr
  obtain ⟨mA, O, _⟩ := ins_get I.hok ha
  obtain ⟨od, J, _⟩ := O.look
  refine PySem.W.in_K hfr I.ok.mod.kin J hMe.at_ hMe.fn (wpAny_mono (run_fnA (us := [.ref a, v]) (vs := [.ref a, x]) F.run hr passes_nil I (.cons rfl (.cons rx .nil)) q) (fun r s2 ⟨v2, H2, I2, r2, b, ev, q2⟩ => ?_) fun _ _ z => z)
  subst ev
  cases (show r = Value.bool b from r2)
  exact wpAny_truthy_bool ⟨.bl b, H2, I2, rfl, by simpa using q2⟩
theorem op_notInO {M : Nat → Option FS} (hr : Room k X.A) : OpR X (compareOp .NotIn) (rInO X.prog X.w X.K X.mg X.base cn k M true) := by
  intro pins s σ H x y v u Q I rx ry h
  obtain ⟨a, C, dx, fs, f, sem, rfl, ha, hMe, F, q⟩ := h
  cases ry
  obtain ⟨m0, hfr⟩ := I.fr
  obtain ⟨mA, O, _⟩ := ins_get I.hok ha
  obtain ⟨od, J, _⟩ := O.look
  refine PySem.W.notIn_K hfr I.ok.mod.kin J hMe.at_ hMe.fn (wpAny_mono (run_fnA (us := [.ref a, v]) (vs := [.ref a, x]) F.run hr passes_nil I (.cons rfl (.cons rx .nil)) q) (fun r s2 ⟨v2, H2, I2, r2, b, ev, q2⟩ => ?_) fun _ _ z => z)
  subst ev
  cases (show r = Value.bool b from r2)
  exact wpAny_truthy_bool ⟨.bl (!b), H2, I2, rfl, by simpa using q2⟩
theorem o2_inO {M : Nat → Option FS} {neg : Bool} (hM : MethOk X.prog X.w X.K X.mg X.base cn "__contains__" k M) : Op2 X.K cn (rInO X.prog X.w X.K X.mg X.base cn k M neg) (fIn M neg) := by
  intro W Ex r st H s x y dx dy Q xo rs rx ry p
  unfold fIn at p
  cases e1 : insOf dy st with
  | none => rw [e1] at p; exact p.elim
  | some z =>
    obtain ⟨n, c, fs⟩ := z
    rw [e1] at p
    obtain ⟨_, _, a, ddx, vs, ev, hrn, ha, hl, hs⟩ := ins_at rs ry e1
    simp only at p
    cases e2 : M c with
    | none => rw [e2] at p; exact p.elim
    | some sem =>
      rw [e2] at p
      simp only at p
      obtain ⟨f, hC, hMe, F⟩ := hM c sem e2
      refine ⟨a, _, ddx, _, f, sem, ev, ha, hMe, F, r, [.obj n, dx], st, Ex, rs, xo, .cons (.obj hrn) (.cons rx .nil), ?_⟩
      cases e3 : sem [.obj n, dx] st with
      | bad => rw [e3] at p; exact p.elim
      | exc _ _ _ => rw [e3] at p; exact p.elim
      | ok d2 st2 =>
        rw [e3] at p
        cases d2 with
        | bl b => exact fun r' v H' g rs' rd => by cases rd; exact ⟨b, rfl, p r' _ H' g rs' (.bl _)⟩
        | _ => exact p.elim

/-! ### static methods, the class's -/
structure SmOf (K : PySem.W.Frag) (C : Addr) (m : Str) (f : Addr) : Prop where
  mc : PySem.W.specialIn K (.ref C) "__getattribute__" = some (some (.builtin "type.__getattribute__"))
  rd : ∃ t, PySem.W.readsIn K C t = true ∧ ∃ p rest, PySem.W.findCls K (.ref C) t m = some (.get (.builtin "staticmethod.__get__") (.ref p) .none (.ref C)) ∧ PySem.W.recIn K p "staticmethod" = some (.ref f :: rest)
theorem se_sm {C f : Addr} {apos : Pos} {pl : Sem Bool} (hS : SmOf X.K C m f) (F : FnT X.prog X.w X.K X.mg X.base cn f k sem) (gC : X.mg x = some (.ref C)) (hg : Gl X x) (tk : Takes X W) (hr : Room k X.A) (ha : SndA X cn W cl (e :: es) ma)
    (hdb : (x == ("__debug__" : Str)) = false := by decide) (hst : starEach (e :: es) X.env = (false, eval e X.env) :: starEach es X.env := by rfl) (hpl : (backTo pos (starEach es X.env)).any (·.1) = false := by rfl)
    (ht : eval (.Call (.Attribute (.Name x p) m apos) (e :: es) [] pos) X.env = (do
      let ov ← eval (.Name x p) X.env
      standAt apos.atName
      let (f, first) ← holding [ov] (getMethod ov m pl)
      callWith pos f first (backTo pos (starEach (e :: es) X.env)) (backToKw pos (keywordEach [] X.env))) := by rfl) :
    SndE X cn W cl (.Call (.Attribute (.Name x p) m apos) (e :: es) [] pos) (eCall sem ma) := by
  refine ⟨fun pins s σ H Q I h => ?_⟩
  refine PySem.W.methodCall_KW (pl := pl) (thn ((pe_glob (pos := p) hg gC (show RelV (.ref C) (.ref C) from rfl) hdb).run pins s σ H (fun v H1 => v = .ref C ∧ H1 = H) I ⟨rfl, rfl⟩) fun u s1 ⟨v, H1, I1, rv, ev, eH⟩ => ?_) ht
  subst ev eH
  obtain rfl : u = Value.ref C := rv
  obtain ⟨t, h1, q, rest, h2, h3⟩ := hS.rd
  refine PySem.W.method_cls I1.kIn hS.mc (PySem.W.cls_bind I1.kIn h1 h2 (wpAny_call (PySem.W.sm_get (s := { s1 with toks := s1.toks + 1 }) I1.kIn h3 (PySem.W.handed_on rfl ?_))))
  have I2 := I1.tok (s1.toks + 1)
  refine PySem.W.callWith_K (h₀ := X.base) I.ok.mod.kin F.kp (thn (ha.run pos pins _ σ H1 _ I2 (call_at h)) fun us s1 ⟨vs, H1, I1, r, q⟩ => ⟨I1.kIn, ?_⟩) hst hpl
  exact run_fnA F.run hr (passAt tk σ) I1 r q

/-! ### properties: no exception is let out -/
abbrev PropOk (P : Program) (w : World) (K : PySem.W.Frag) (mg : Str → Option Value) (base : Heap) (cn : CN) (m : Str) (k : Nat) (M : Nat → Option FS) : Prop :=
  ∀ c sem, M c = some sem → ∃ p f, Cls K (ca K cn c) ∧ PropOf K (ca K cn c) m p f ∧ FnT P w K mg base cn f k sem
def fProp (M : Nat → Option FS) (d : D) (st : Sto) : R D := match insOf d st with
  | some (n, c, _) => (match M c with
    | some sem => (match sem [.obj n] st with
      | .ok d st2 => .ok d st2
      | _ => .bad)
    | none => .bad)
  | none => .bad
theorem getprop_A {pins : List (Addr × Obj)} {σ : L2.St} {H : Hp} {s : Shared} {Q : VK} {b : Bool} {E' : Value → Shared → Prop} {a C p g dx : Addr} {fs : List (Str × V)} {sp : Sp} (I : Inv X pins σ H s) (ea : H a = some (.ins C dx fs)) (c : Cls X.K C) (hp : PropOf X.K C f p g)
    (F : FnR X.prog X.w X.K X.mg X.base (L2.CX X.prog X.w) k g sp) (hr : Room (k + 1) X.A) (h : sp [.ref a] H Q (fun _ _ _ => False)) :
    wpAny (model X.prog X.w) X.A (getAttr (.ref a) f b) (EP X pins σ Q) E' s := by
  obtain ⟨mA, O, _, _, _, _⟩ := ins_get I.hok ea
  obtain ⟨od, J, _⟩ := O.look
  obtain ⟨rest, hrec⟩ := hp.rec_
  have I1 := I.tok (s.toks + 1)
  have hc : (PySem.W.clsIn X.K C).isSome = true := by
    obtain ⟨cd, hc, _⟩ := PySem.W.any_some c.hd
    rw [hc]
    rfl
  refine PySem.W.get_bind I.kIn J (PySem.W.plainGet_of (c.get f)).1 (PySem.W.findObj_data hc hp.at_ hp.get hp.tak) (PySem.W.plainGet_of (c.get f)).2 (wpAny_call (PySem.W.prop_get (s := { s with toks := s.toks + 1 }) I.kIn hrec ?_))
  refine codeAny_mono (F X.A.in1 X.stack { s with toks := s.toks + 1 } H [.ref a] [.ref a] Q _ hr.in1 I1.env0.in1 (.cons rfl .nil) h) fun r s' hq => ?_
  cases r with
  | error er =>
    obtain ⟨_, _, _, _, _, _, _, _, _, _, _, _, z⟩ := hq
    exact z.elim
  | ok fl =>
    cases fl with
    | ret u =>
      obtain ⟨v, H', I3, rv, q3⟩ := I1.after hq
      show wpAny _ _ (handedOut u) _ _ _
      rw [PySem.W.handedOut_of (handed_of rv)]
      exact wpAny_pure ⟨v, H', I3, rv, q3⟩
    | next => exact False.elim hq
    | brk => exact False.elim hq
    | cont => exact False.elim hq
theorem se_prop {M : Nat → Option FS} (hM : PropOk X.prog X.w X.K X.mg X.base cn f k M) (hr : Room (k + 1) X.A) (he : SndE X cn W cl e me) (hb : attributeBase e f X.env (eval e X.env) = eval e X.env := by rfl) : SndE X cn W cl (.Attribute e f pos) (eUn (fProp M) me) := by
  refine ⟨fun pins s σ H Q I h => ?_⟩
  obtain ⟨r, env, st, Ex, at_, p⟩ := h
  refine attr_of hb (thn (he.run pins s σ H _ I (tM_at at_ (PostE.bind p))) fun u s1 ⟨v, H1, I1, rv, r1, d, st1, g1, rs1, rd1, p1⟩ => ?_)
  unfold fProp at p1
  cases e1 : insOf d st1 with
  | none => rw [e1] at p1; exact p1.elim
  | some z =>
    obtain ⟨n, c, fs⟩ := z
    rw [e1] at p1
    obtain ⟨_, hst2, a, dx, vs, ev, hrn, ha1, hl, hs⟩ := ins_at rs1 rd1 e1
    simp only at p1
    cases e2 : M c with
    | none => simp only [e2] at p1; exact p1.elim
    | some sem =>
      simp only [e2] at p1
      obtain ⟨pp, f, hC, hP, F⟩ := hM c sem e2
      subst ev
      obtain rfl : u = Value.ref a := rv
      refine getprop_A I1 ha1 hC hP F.run hr ⟨r1, [.obj n], st1, Ex, rs1, (at_.grow g1 rs1).xo, .cons (.obj hrn) .nil, ?_⟩
      cases e3 : sem [.obj n] st1 with
      | bad => rw [e3] at p1; exact p1.elim
      | exc _ _ _ => rw [e3] at p1; exact p1.elim
      | ok d2 st2 => rw [e3] at p1; exact p1
end
end Fx

namespace Fx
open PySem PySem.Spec PyProof.Rows L2

/-! ## t[::-1] of a tuple -/
theorem fm_congr {α β : Type} {f g : α → Option β} : ∀ {l : List α}, (∀ a ∈ l, f a = g a) → l.filterMap f = l.filterMap g
  | [], _ => rfl
  | a :: l, h => by rw [List.filterMap_cons, List.filterMap_cons, h a (List.mem_cons_self ..), fm_congr fun b hb => h b (List.mem_cons_of_mem _ hb)]
section
variable {prog : Program} {w : World} {A : Around} {E : Value → Shared → Prop} {s : Shared}
theorem rev_range {α : Type} (xs : Array α) : ((List.range xs.size).filterMap fun (m : Nat) => xs[(((xs.size : Int) - 1) + (m : Int) * -1).toNat]?).toArray = xs.toList.reverse.toArray := by
  have h := PySem.W.krv_all xs
  have e : (List.range xs.size).filterMap (fun (m : Nat) => xs[(((xs.size : Int) - 1) + (m : Int) * -1).toNat]?) = ((List.range xs.size).map (fun k => xs.size - 1 - k)).filterMap (xs[·]?) := by
    rw [List.filterMap_map]
    apply fm_congr
    intro k hk
    have hk := List.mem_range.mp hk
    show xs[(((xs.size : Int) - 1) + (k : Int) * -1).toNat]? = xs[xs.size - 1 - k]?
    have e : (((xs.size : Int) - 1) + (k : Int) * -1).toNat = xs.size - 1 - k := by omega
    rw [e]
  rw [e, PySem.W.krv_range, List.filterMap_reverse, h]
theorem getItem_tuple_rev {t sl : Addr} {items : Array Value} {u : Tok} {Q : Value → Shared → Prop} (ht : IsTup s.heap t items) (hs : s.heap.IsSliceOf sl .none .none (.int (-1) u))
    (h : Q (.ref s.heap.objs.size) { s with heap := s.heap.push { cls := .type "tuple", data := .seq items.toList.reverse.toArray } }) (hsz : items.size ≤ sizeLine) : wpAny (model prog w) A (getItem (.ref t) (.ref sl)) Q E s := by
  have htake : sizeOk (.seq items.toList.reverse.toArray) := by
    show items.toList.reverse.toArray.size ≤ sizeLine
    rw [List.size_toArray, List.length_reverse, Array.length_toList]
    exact hsz
  obtain ⟨os, hos, hcs, hds⟩ := id hs
  have hTs : s.TypeIs (.ref sl) "slice" := ⟨os, hos, hcs⟩
  unfold getItem
  try with_reducible refine wpAny_holding ?_
  first | refine wpAny_bind (wpAny_pure ?_) | skip
  refine wpAny_bind (wpAny_sequenceKey ht.typeIs (by decide) ?_)
  refine wpAny_bind (wpAny_callSpecial?_slot (name := Str.ofString "__getitem__") ht.typeIs PyProof.Rows.slot_tuple_getitem
    (wpAny_call_entry PyProof.Rows.slot_tuple_getitem ht.typeIs entry_tuple_getitem ?_ (args_tuple_getitem _ _)))
  show wpAny _ _ (Builtin.Tuple.tupleItemsOf (.ref t) >>= _) _ _ s
  refine wpAny_bind (tupleItemsOf_ ht ?_)
  refine wpAny_bind (wpAny_typeOf hTs ?_)
  rw [if_pos (by decide)]
  have ap : ∀ {Q' : Int × Int × Nat → Shared → Prop} {E' : Value → Shared → Prop} {A' : Around}, Q' ((items.size : Int) - 1, -1, items.size) s → wpAny (model prog w) A' (Builtin.Slice.sliceApplied (.ref sl) (pure (items.size : Int))) Q' E' s := by
    intro Q' E' A' h
    unfold Builtin.Slice.sliceApplied Builtin.Slice.sliceFields
    refine wpAny_bind (wpAny_bind (wpAny_field hos hds (x := .none) rfl (wpAny_bind (wpAny_field hos hds (x := .none) rfl (wpAny_bind (wpAny_field hos hds (x := .int (-1) u) rfl (wpAny_pure ?_)))))))
    refine wpAny_bind (slicePart_int ?_)
    show wpAny _ _ (if ((-1 : Int) == 0) = true then _ else _) _ _ s
    rw [if_neg (by decide)]
    refine wpAny_bind (slicePart_none (wpAny_bind (slicePart_none (wpAny_bind (wpAny_pure ?_)))))
    have e : Builtin.Slice.slicePlaces ((items.size : Int) - 1) (-1) (-1) = items.size := by
      unfold Builtin.Slice.slicePlaces
      have h1 : ¬ ((-1 : Int) > 0) := by omega
      have h2 : (- (-1) : Int) = 1 := by omega
      simp only [h1, if_false, h2, Int.ediv_one]
      split <;> omega
    have e2 : Builtin.Slice.sliceAdjust none none (-1) (items.size : Int) = ((items.size : Int) - 1, -1) := rfl
    show wpAny _ _ (match Builtin.Slice.sliceAdjust none none (-1) (items.size : Int) with | (lo, hi) => pure (lo, (-1 : Int), Builtin.Slice.slicePlaces lo hi (-1))) _ _ s
    rw [e2]
    show wpAny _ _ (pure ((items.size : Int) - 1, (-1 : Int), Builtin.Slice.slicePlaces ((items.size : Int) - 1) (-1) (-1))) _ _ s
    rw [e]
    exact wpAny_pure h
  refine wpAny_bind (ap ?_)
  have hno : ¬ ((((items.size : Int) - 1) == 0 && (-1 : Int) == 1 && items.size == items.size) = true) := by
    intro q
    rw [Bool.and_eq_true, Bool.and_eq_true] at q
    exact absurd q.1.2 (by decide)
  show wpAny _ _ (if (((items.size : Int) - 1) == 0 && (-1 : Int) == 1 && items.size == items.size) = true then _ else _) _ _ s
  rw [if_neg hno, rev_range]
  first
    | exact wpAny_bind (m := Builtin.Tuple.tupleExact _) (wpAny_newObj_type (wpAny_pure ⟨_, rfl, wpAny_pure h⟩) htake)
    | exact wpAny_bind (m := Builtin.Tuple.tupleExact _) (wpAny_newObj_type (wpAny_bind (wpAny_pure (wpAny_pure ⟨_, rfl, wpAny_pure h⟩))) htake)
    | exact wpAny_bind (wpAny_bind (m := Builtin.Tuple.tupleExact _) (wpAny_newObj_type (wpAny_pure (wpAny_pure ⟨_, rfl, wpAny_pure h⟩)) htake))
    | exact wpAny_bind (wpAny_bind (m := Builtin.Tuple.tupleExact _) (wpAny_newObj_type (wpAny_pure ⟨_, rfl, wpAny_pure h⟩) htake))
end
def tRevT (K : PySem.W.Frag) (te : TE) : TE := fun σ H Q => te σ H fun x H1 => ∃ a xs, x = .ref a ∧ SqT K H1 a xs ∧ ∀ p, H1 p = none → Q (.ref p) (upd H1 p (.tup xs.reverse))
theorem pe_revT {X : Cx} {e : Expr} {te : TE} {k : Nat} {p1 p2 p3 pos : Pos} (he : PE X e te) : PE X (.Subscript e (.Slice none none (some (.UnaryOp .USub (.Constant (.int 1) k p1) p2)) p3) pos) (tRevT X.K te) := by
  refine ⟨fun pins s σ H Q I h => ?_⟩
  refine Subscript_ (thn (he.run pins s σ H _ I h) fun v s1 ⟨x, H1, I1, r1, q1⟩ => ?_)
  obtain ⟨a, xs, ex, hx, q⟩ := q1
  subst ex
  cases r1
  have hst : PO X (some (.UnaryOp .USub (.Constant (.int 1) k p1) p2)) (tPart (tUn (rU fun i => .int (-i)) (tC (.int 1)))) := po_some (pe_un un_neg pe_int)
  refine wpAny_Slice (thn (po_none.run pins s1 σ H1 (fun o H2 => o = none ∧ H2 = H1) I1 ⟨rfl, rfl⟩) fun vl s2 ⟨l, H2, I2, pl, el, e2⟩ => ?_)
  subst el e2
  refine thn (po_none.run pins s2 σ H2 (fun o H3 => o = none ∧ H3 = H2) I2 ⟨rfl, rfl⟩) fun vu s3 ⟨u, H3, I3, pu, eu, e3⟩ => ?_
  subst eu e3
  refine thn (hst.run pins s3 σ H3 (fun o H4 => o = some (-1) ∧ H4 = H3) I3 ⟨1, rfl, -1, rfl, rfl, rfl⟩) fun vs s4 ⟨o, H4, I4, ps, eo, e4⟩ => ?_
  subst eo e4
  have I5 : Inv X pins σ H4 { s4 with heap := s4.heap.push { cls := .type "slice", data := .fields #[vl, vu, vs] } } := I4.kept (t' := s4.toks) fun b ob q => Heap.get?_push_of_some _ q
  obtain ⟨its, r, ht, hz⟩ := I5.tuple hx
  have hlen := r.length
  cases pl
  cases pu
  cases ps
  show wpAny (model X.prog X.w) X.A (subscriptTail e (.Slice none none (some (.UnaryOp .USub (.Constant (.int 1) k p1) p2)) p3) (.ref a) (.ref s4.heap.objs.size)) (EP X pins σ Q) X.xe _
  refine tail_any (ops := [.ref a, .ref s4.heap.objs.size]) ht.typeIs (PyProof.Rows.slot_tuple_getitem.lookup) ?_ (by with_unfolding_all rfl)
  refine getItem_tuple_rev ht (Heap.IsSliceOf.new _ _ _ _) ?_ (by rw [List.size_toArray]; omega)
  refine ⟨.ref _, _, I5.laid (t' := s4.toks) (o := .tup xs.reverse) (fun b ob q => Heap.get?_push_of_some _ q) (Nat.le_refl _) ?_, rfl, q _ (I5.hok.fresh (Nat.le_refl _))⟩
  exact ⟨by rw [List.length_reverse]; exact hz, its.reverse, r.reverse, ⟨_, Heap.get?_push_size _ rfl, rfl, _, rfl⟩⟩
def revD (x : D) (st1 : Sto) : R D := match x with
  | .tup ds => .ok (.tup ds.reverse) st1
  | x => match lsOf st1 x with
    | some ds => .ok (.lst ds.reverse) st1
    | none => .bad
def eRevA (m : ME) : ME := fun env st => (m env st).bind revD
section
variable {X : Cx} {cn : CN} {K : PySem.W.Frag} {W : WX} {Ex : Addr → Prop} {cl : Bool} {r : List Addr} {H : Hp} {st : Sto} {pos p p2 p3 : Pos} {a c o k e : Expr} {ma mo mk m : ME}
theorem se_revA {j : Nat} {q1 q2 q3 : Pos} (ha : SndE X cn W cl a ma) : SndE X cn W cl (.Subscript a (.Slice none none (some (.UnaryOp .USub (.Constant (.int 1) j q1) q2)) q3) pos) (eRevA ma) := pe_imp (pe_or (pe_revL ha) (pe_revT ha)) fun s H Q ⟨r, env, st, Ex, at_, p⟩ => by
  have p2 := PostE.bind p
  cases e : ma env st with
  | bad => unfold eRevA at p; rw [e] at p; exact p.elim
  | exc c f st1 =>
    rw [e] at p2
    refine .inl (tM_at at_ ?_)
    rw [e]; exact p2
  | ok d st1 =>
    unfold eRevA at p
    rw [e] at p
    have p3 : PostE X.K cn W Ex (revD d st1) r H s Q := p
    have rest : (∀ ds, d ≠ .tup ds) → PostE X.K cn W Ex (match lsOf st1 d with
        | some ds => .ok (.lst ds.reverse) st1
        | none => .bad) r H s Q → tRevL X.K (tM X.K cn W cl ma) s H Q := fun hd q => by
      cases e2 : lsOf st1 d with
      | none => rw [e2] at q; exact q.elim
      | some ds =>
        rw [e2] at q
        refine tM_at at_ ?_
        rw [e]
        intro r1 v H1 g rs rd
        obtain ⟨b, vs, h1, h2, h3⟩ := ls_at rs rd e2
        exact ⟨b, vs, h1, h2, fun l hl => q r1 _ _ (g.trans (Grow.lay hl)) (rs.lay hl) (.lst upd_same (rs.out hl) (fun z => (at_.grow g rs).xo _ z hl) ((Grow.lay hl).rds h3.reverse))⟩
    cases d with
    | tup ds =>
      refine .inr (tM_at at_ ?_)
      rw [e]
      intro r1 v H1 g rs rd
      obtain ⟨b, vs, h1, h2, h3⟩ := tu_at rd
      exact ⟨b, vs, h1, h2, fun l hl => p3 r1 _ _ (g.trans (Grow.lay hl)) (rs.lay hl) (.tup upd_same (rs.out hl) ((Grow.lay hl).rds h3.reverse))⟩
    | _ => exact .inl (rest (fun ds z => by cases z) p3)

/-! ## a list of the store, an item set -/
def mPutO (mo mk m : ME) : MS := fun env st => (m env st).stm env fun d st1 => (mo env st1).stm env fun x st2 => (mk env st2).stm env fun i st3 => match x, i with
  | .obj n, .int j => (match st3[n]? with
    | some (.lst ds) => (match (if noLst d = true then ixN ds.length j else none) with
      | some t => .nx env (st3.set n (.lst (ds.set t d)))
      | none => .bad)
    | _ => .bad)
  | _, _ => .bad
theorem ss_putO {p1 : Pos} (he : SndE X cn W true e m) (ho : SndE X cn W true o mo) (hk : SndE X cn W true k mk)
    (ha : ∀ v, assign (.Subscript o k p1) X.env v = (do
      let ov ← holding [v] (eval o X.env)
      let iv ← holding [v, ov] (eval k X.env)
      standAt p1
      holding [v, ov, iv] (setItem ov iv v)
      release [v, ov, iv] []) := by intro _; rfl)
    (hs : swapsWithSole [.Subscript o k p1] e pos.line X.env = pure false := by rfl) (hw : swappedStores [.Subscript o k p1] e X.env = pure none := by rfl) (h1 : (assignEach [.Subscript o k p1] X.env).map (·.2) = [assign (.Subscript o k p1) X.env] := by rfl) :
    SndS X cn W (.Assign [.Subscript o k p1] e pos) (mPutO mo mk m) := ps_imp (ps_asg he (pg_sub ho hk set_list ha) hs hw h1) fun Dn s H ⟨r0, H0, r, env, st, Ex, oo, p⟩ => by
  refine tM_at oo.at_ ((PostS.ofE (cl := true) oo p).mono fun v H1 ⟨r1, d, st1, g1, o1, rd1, p1⟩ => tM_at o1.at_ ((PostS.ofE (cl := true) o1 p1).mono fun ov H2 ⟨r2, x, st2, g2, o2, rd2, p2⟩ => tM_at o2.at_ ((PostS.ofE (cl := true) o2 p2).mono fun kv H3 ⟨r3, i, st3, g3, o3, rd3, p3⟩ => ?_)))
  cases x with
  | obj n =>
    cases i with
    | int j =>
      cases rd3
      simp only at p3
      cases e1 : st3[n]? with
      | none => rw [e1] at p3; exact p3.elim
      | some mo3 =>
        rw [e1] at p3
        cases mo3 with
        | lst ds =>
          simp only at p3
          by_cases hz : noLst d = true
          · rw [if_pos hz] at p3
            cases e2 : ixN ds.length j with
            | none => rw [e2] at p3; exact p3.elim
            | some t =>
              rw [e2] at p3
              have rdo := g3.rd rd2
              cases rdo with
              | obj hr =>
                obtain ⟨vs, h1, h2⟩ := o3.rs.ok _ _ _ e1 hr
                have rdv := ((g2.trans g3).rd rd1).free (Ex' := All) hz
                refine ⟨_, vs, j, t, rfl, rfl, h1, by rw [h2.length]; exact e2, p3 r3 s _ (o3.grow (Grow.write hr) (o3.rs.write hr fun H' kk e' => ⟨_, e', (h2.set t rdv).kept kk⟩))⟩
          · rw [if_neg hz] at p3; exact p3.elim
        | _ => exact p3.elim
    | _ => exact p3.elim
  | _ => cases i <;> exact p3.elim

/-! ## str of an int -/
def fStr (d : D) (st : Sto) : R D := match d with
  | .int i => if bits i 1900 = true then .ok (.str (toString i)) st else .bad
  | _ => .bad
theorem oc_str : OpC K cn (fun xs H Q => ∃ i, xs = [.int i] ∧ i.natAbs.log2 < 1920 ∧ Q (.str (toString i)) H) (fOne fStr) := oc_one fun W Ex ro st H s x d Q xo rs rx p => by
  cases d with
  | int i =>
    cases rx
    simp only [fStr] at p
    by_cases hz : bits i 1900 = true
    · rw [if_pos hz] at p
      have h := bits_ok hz
      refine ⟨i, rfl, ?_, PostE.here p rs (.str _)⟩
      by_cases h0 : i.natAbs = 0
      · rw [h0]; decide
      · have := (Nat.log2_lt h0).mpr h
        omega
    · rw [if_neg hz] at p; exact p.elim
  | _ => exact p.elim
end
end Fx

namespace Fx
open PySem PySem.Spec PyProof.Rows L2

/-! ## own lists changed by what reads own lists: no list in the value -/
section
variable {X : Cx} {cn : CN} {W : WX} {cl : Bool} {pos pos' : Pos} {e : Expr}
def mAppU (i : Nat) (m : ME) : MS := fun env st => match env[i]? with
  | some (.own xs) => (m env st).stm env fun d st1 => if (sz (xs.length + 1) && noLst d) = true then .nx (env.set i (.own (xs ++ [d]))) st1 else .bad
  | _ => .bad
theorem ss_appU {i : Nat} {x : Str} {m : ME} {p1 p2 p3 : Pos}
    (hpe : PE X (.Call (.Attribute (.Name x p1) "append" p2) [e] [] p3) (tBM X.K "list" rAppend (tVar i) (tCons (tM X.K cn W cl m) tNil))) (hs : swapsWith (.Call (.Attribute (.Name x p1) "append" p2) [e] [] p3) none pos.line X.env = pure false := by rfl) :
    SndS X cn W (.Expr (.Call (.Attribute (.Name x p1) "append" p2) [e] [] p3) pos) (mAppU i m) := ps_imp (ps_expr hpe hs) fun Dn s H ⟨r0, H0, r, env, st, Ex, o, p⟩ => by
  obtain ⟨xs, hi, p⟩ := ownAt p
  obtain ⟨a, vs, h1, h2, h3, h4⟩ := o.eo.own i xs hi
  refine ⟨_, h1, .inl ⟨rfl, vs, .inl (.inl h2)⟩, tM_at o.at_ ((PostS.ofE (cl := cl) o p).mono fun v H1 ⟨r1, d, st1, g, o1, rd, p1⟩ => ?_)⟩
  by_cases hz : (sz (xs.length + 1) && noLst d) = true
  · rw [if_pos hz] at p1
    obtain ⟨hz, hz2⟩ := Bool.and_eq_true_iff.mp hz
    have h2' := g.kp _ _ h2 h3
    have hlen : vs.length < sizeLine := by
      have h5 := of_decide_eq_true hz
      have h6 := h4.length
      have h7 : (100000 : Nat) < sizeLine := by decide
      omega
    exact ⟨a, vs, v, rfl, rfl, h2', hlen, p1 r1 s _ (o1.rewrite hi h1 h2' ((g.rds h4).append (.cons (rd.free hz2) .nil)))⟩
  · rw [if_neg hz] at p1; exact p1.elim
def mPutU (i : Nat) (mk m : ME) : MS := fun env st => match env[i]? with
  | some (.own xs) => (m env st).stm env fun d st1 => (mk env st1).stm env fun k st2 => match k with
    | .int k => (match (if noLst d = true then ixN xs.length k else none) with
      | some j => .nx (env.set i (.own (xs.set j d))) st2
      | none => .bad)
    | _ => .bad
  | _ => .bad
theorem ss_putU {i : Nat} {x : Str} {k : Expr} {mk m : ME} {p1 p2 : Pos} (he : SndE X cn W cl e m) (hg : PG X (.Subscript (.Name x p1) k p2) (gSub (tVar i) (tM X.K cn W cl mk) rSetL))
    (hs : swapsWithSole [.Subscript (.Name x p1) k p2] e pos.line X.env = pure false := by rfl) (hw : swappedStores [.Subscript (.Name x p1) k p2] e X.env = pure none := by rfl) (h1 : (assignEach [.Subscript (.Name x p1) k p2] X.env).map (·.2) = [assign (.Subscript (.Name x p1) k p2) X.env] := by rfl) :
    SndS X cn W (.Assign [.Subscript (.Name x p1) k p2] e pos) (mPutU i mk m) := ps_imp (ps_asg he hg hs hw h1) fun Dn s H ⟨r0, H0, r, env, st, Ex, o, p⟩ => by
  obtain ⟨xs, hi, p⟩ := ownAt p
  obtain ⟨a, vs, h1, h2, h3, h4⟩ := o.eo.own i xs hi
  refine tM_at o.at_ ((PostS.ofE (cl := cl) o p).mono fun v H1 ⟨r1, d, st1, g, o1, rd, p1⟩ => ⟨_, h1, tM_at o1.at_ ((PostS.ofE (cl := cl) o1 p1).mono fun kv H2 ⟨r2, kd, st2, g2, o2, rdk, p2⟩ => ?_)⟩)
  cases kd with
  | int k =>
    cases rdk
    simp only at p2
    by_cases hz : noLst d = true
    · rw [if_pos hz] at p2
      cases e : ixN xs.length k with
      | none => rw [e] at p2; exact p2.elim
      | some j =>
        rw [e] at p2
        have gg := g.trans g2
        have h2' := gg.kp _ _ h2 h3
        exact ⟨a, vs, k, j, rfl, rfl, h2', by rw [h4.length]; exact e, p2 r2 s _ (o2.rewrite hi h1 h2' ((gg.rds h4).set j ((g2.rd rd).free hz)))⟩
    · rw [if_neg hz] at p2; exact p2.elim
  | _ => exact p2.elim
/-- own = own + e -/
def mOwnCat (i : Nat) (m : ME) : MS := fun env st => match env[i]? with
  | some (.own xs) => (m env st).stm env fun d st1 => match d with
    | .lst ys => if sz (xs.length + ys.length) = true then .nx (env.set i (.own (xs ++ ys))) st1 else .bad
    | _ => .bad
  | _ => .bad
theorem ss_ownCat {i : Nat} {x : Str} {m : ME} {p1 p2 : Pos} (hN : X.N.Nodup) (hi : X.N[i]? = some x) (hx : Loc X.env.scope x) (hv : Vis X.env.scope x) (he : SndE X cn W true e m) (hd : (x == ("__debug__" : Str)) = false := by decide) (hcd : (x == ("__classdict__" : Str)) = false := by decide)
    (hs : swapsWith (.BinOp (.Name x p1) .Add e p2) (some (.Name x pos')) pos.line X.env = pure false := by rfl) (hf : X.fn x = true ∨ X.env.scope.names.lookup x = some .local := by first | exact .inl rfl | exact .inr rfl | assumption) :
    SndS X cn W (.Assign [.Name x pos'] (.BinOp (.Name x p1) .Add e p2) pos) (mOwnCat i m) := ps_imp (ps_set hN hi hx (pe_op op_cat (pe_var hi hv hd hcd) he) hs hf) fun Dn s H ⟨r0, H0, r, env, st, Ex, o, p⟩ => by
  obtain ⟨xs, hi, p⟩ := ownAt p
  obtain ⟨a, vs, h1, h2, h3, h4⟩ := o.eo.own i xs hi
  refine ⟨_, h1, tM_at o.at_ ((PostS.ofE (cl := true) o p).mono fun v H1 ⟨r1, d, st1, g, o1, rd, p1⟩ => ?_)⟩
  cases d with
  | lst ys =>
    simp only at p1
    by_cases hz : sz (xs.length + ys.length) = true
    · rw [if_pos hz] at p1
      have rd2 := rd.ownx
      cases rd2 with
      | lst e1 e2 e3 e4 =>
        have h4' := g.rds h4
        have h2' := g.kp _ _ h2 h3
        refine ⟨_, _, _, _, rfl, rfl, h2', e1, by rw [h4.length, e4.length]; exact sz_ok hz, fun q hq => ?_⟩
        refine p1 r1 _ _ (o1.own (Grow.lay hq) (o1.grow (Grow.lay hq) (o1.rs.lay hq)) hq upd_same (o1.rs.out hq) ?_)
        exact (Grow.lay hq).rds ((h4'.append e4).kept (kept_new hq))
    · rw [if_neg hz] at p1; exact p1.elim
  | _ => exact p1.elim
/-- name = a new list, own lists read: no list in it -/
def mSetN (i : Nat) (m : MA) : MS := fun env st => (m env st).stmA env fun ds st1 => if noLsts ds = true then .nx (env.set i (.val (.lst ds))) st1 else .bad
theorem s_setN {i : Nat} {m : MA} {K : PySem.W.Frag} : ∀ Dn s H, tS K cn W (mSetN i m) Dn s H → tAsg (tMF K cn W cl m) (gName i) Dn s H := fun Dn s H ⟨r0, H0, r, env, st, Ex, o, p⟩ =>
  ⟨r, env, st, _, o.at_, PostS.ofF o p fun r1 q ws ds st1 H1 g o1 h1 h2 h3 h4 p1 => by
    by_cases hz : noLsts ds = true
    · rw [if_pos hz] at p1
      exact p1 r1 _ H1 (o1.put (.lst h2 h3 (fun z => Or.elim z (fun z => o.eo.ownSome z h1) fun z => o.xo.grow o.gr o.rs q z h1) (h4.free hz)))
    · rw [if_neg hz] at p1; exact p1.elim⟩
theorem ss_setN {i : Nat} {x : Str} {m : MA} (hN : X.N.Nodup) (hi : X.N[i]? = some x) (hx : Loc X.env.scope x) (he : SndF X cn W cl e m) (hs : swapsWith e (some (.Name x pos')) pos.line X.env = pure false := by rfl) (hf : X.fn x = true ∨ X.env.scope.names.lookup x = some .local := by first | exact .inl rfl | exact .inr rfl | assumption) :
    SndS X cn W (.Assign [.Name x pos'] e pos) (mSetN i m) := ps_imp (ps_set hN hi hx he hs hf) s_setN
theorem ss_setF {i : Nat} {x : Str} {m : MA} (hN : X.N.Nodup) (hi : X.N[i]? = some x) (hx : Loc X.env.scope x) (he : SndF X cn W true e m) (hs : swapsWith e (some (.Name x pos')) pos.line X.env = pure false := by rfl) (hf : X.fn x = true ∨ X.env.scope.names.lookup x = some .local := by first | exact .inl rfl | exact .inr rfl | assumption) :
    SndS X cn W (.Assign [.Name x pos'] e pos) (mSet_ i m) := ps_imp (ps_set hN hi hx he hs hf) s_set_
variable {elt tg iter : Expr} {ifs : List Expr} {scope : Scope} {own : List (Str × Nat)} {t : Tg} {mi : MA} {mt me : ME} {spos py : Pos} {y : Str}
theorem ss_setLcU {i : Nat} (hc : X.calm = true) (hN : X.N.Nodup) (hy : X.N[i]? = some y) (hyl : X.env.scope.names.lookup y = some .local) (hsw : swapsWith (.ListComp elt [⟨tg, iter, ifs, 0⟩] scope pos) (some (.Name y py)) spos.line X.env = pure true) (hi : SndI X cn W false tg iter mi) (ok : BlkOk X.N X.env.scope scope own)
    (hg : ∀ (s : Shared) (H : Hp) (C : Addr) (cl' : List (Str × Addr)) (fp : List Addr), PG (X.blk s H scope (compEnvC scope cl' C X.env) fp) tg (tgG X.K t)) (ht : ∀ (s : Shared) (H : Hp) (C : Addr) (cl' : List (Str × Addr)) (fp : List Addr), SndTs (X.blk s H scope (compEnvC scope cl' C X.env) fp) cn WF false ifs mt)
    (he : ∀ (s : Shared) (H : Hp) (C : Addr) (cl' : List (Str × Addr)) (fp : List Addr), SndE (X.blk s H scope (compEnvC scope cl' C X.env) fp) cn WF false elt me) (hsl : ∀ i ∈ t.slots, i ∈ own.map (·.2) := by decide) (hs : ∀ x, foldedSetIterable iter X.env x = pure x := by intro _; rfl) :
    SndS X cn W (.Assign [.Name y py] (.ListComp elt [⟨tg, iter, ifs, 0⟩] scope pos) spos) (mSetN i (lcM true mi t mt me (own.map (·.2)))) := ps_imp (ps_setLc (tt := tMT X.K cn WF false mt) (te := tM X.K cn WF false me) hc hN hy hyl hsw hi ok hg ht he hs) fun Dn s H h => tM_lcF hsl (.inr rfl) _ _ _ (s_setN Dn s H h)
end

/-! ## constants of the module -/
mutual
def cvR (K : PySem.W.Frag) : D → Value → Bool
  | .non, .none => true
  | .bl b, .bool c => b == c
  | .int i, .int j _ => decide (i = j)
  | .str x, .str y _ => decide (x = y)
  | .tup ds, .ref a => (match K.lookup a with
    | some ⟨.type c, _, .seq its _, _⟩ => decide (c = "tuple") && (decide (its.size ≤ sizeLine) && cvRs K ds its.toList)
    | _ => false)
  | _, _ => false
def cvRs (K : PySem.W.Frag) : List D → List Value → Bool
  | [], [] => true
  | d :: ds, u :: us => cvR K d u && cvRs K ds us
  | _, _ => false
end
mutual
theorem cvR_ok {K : PySem.W.Frag} : ∀ {d : D} {u : Value}, cvR K d u = true → ∃ v, RelV v u ∧ RDc K v d
  | .non, u, h => by
    cases u with
    | none => exact ⟨.non, rfl, fun _ _ _ => .non⟩
    | _ => simp [cvR] at h
  | .bl b, u, h => by
    cases u with
    | bool c => simp [cvR] at h; subst h; exact ⟨.bl b, rfl, fun _ _ _ => .bl b⟩
    | _ => simp [cvR] at h
  | .int i, u, h => by
    cases u with
    | int j t => simp [cvR] at h; subst h; exact ⟨.int i, ⟨t, rfl⟩, fun _ _ _ => .int i⟩
    | _ => simp [cvR] at h
  | .str x, u, h => by
    cases u with
    | str y t => simp [cvR] at h; subst h; exact ⟨.str x, ⟨t, rfl⟩, fun _ _ _ => .str x⟩
    | _ => simp [cvR] at h
  | .tup ds, u, h => by
    cases u with
    | ref a =>
      simp only [cvR] at h
      cases q : K.lookup a with
      | none => rw [q] at h; cases h
      | some o =>
        rw [q] at h
        obtain ⟨oc, od, dt, sl⟩ := o
        cases oc with
        | type c =>
          cases dt with
          | seq its n =>
            simp only [Bool.and_eq_true, decide_eq_true_eq] at h
            obtain ⟨h1, h2, h3⟩ := h
            subst h1
            obtain ⟨vs, h4, h5⟩ := cvRs_ok h3
            exact ⟨.ref a, rfl, fun r H Ex => .tupK ⟨_, its, n, q, rfl, rfl, h2, h4⟩ (h5 r H Ex)⟩
          | _ => cases h
        | _ => cases h
    | _ => simp [cvR] at h
  | .lst _, u, h => by simp [cvR] at h
  | .dK _ _, u, h => by simp [cvR] at h
  | .dT _ _, u, h => by simp [cvR] at h
  | .obj _, u, h => by simp [cvR] at h
  | .err _, u, h => by simp [cvR] at h
  | .scr _, u, h => by simp [cvR] at h
theorem cvRs_ok {K : PySem.W.Frag} : ∀ {ds : List D} {us : List Value}, cvRs K ds us = true → ∃ vs, Vals vs us ∧ ∀ r H Ex, RDs K r H Ex vs ds
  | [], [], _ => ⟨[], .nil, fun _ _ _ => .nil⟩
  | [], _ :: _, h => by simp [cvRs] at h
  | _ :: _, [], h => by simp [cvRs] at h
  | d :: ds, u :: us, h => by
    simp only [cvRs, Bool.and_eq_true] at h
    obtain ⟨v, h1, h2⟩ := cvR_ok h.1
    obtain ⟨vs, h3, h4⟩ := cvRs_ok h.2
    exact ⟨v :: vs, .cons h1 h3, fun r H Ex => .cons (h2 r H Ex) (h4 r H Ex)⟩
end
/-- a name of the module that stands for the constant d -/
def CoF (K : PySem.W.Frag) (mg : Str → Option Value) (x : Str) (d : D) : Prop := ∃ u, mg x = some u ∧ ∃ v, RelV v u ∧ RDc K v d
theorem se_gc {X : Cx} {cn : CN} {W : WX} {cl : Bool} {pos : Pos} {x : Str} {d : D} (F : CoF X.K X.mg x d) (hg : Gl X x) (hd : (x == ("__debug__" : Str)) = false := by decide) : SndE X cn W cl (.Name x pos) (eC d) := by
  obtain ⟨u, h1, v, h2, h3⟩ := F
  exact se_c (pe_glob hg h1 h2 hd) h3

/-! ## classes: what the config says, checked -/
structure CD where
  names : List Str
  ins : List (Nat × Nat × Bool)
  exc : List (Str × Nat × Bool)
  lams : List Str
/-- the code object of a def, and its table -/
def codeAd (K : PySem.W.Frag) (f : Str) : Addr := match K.lookup (He.ga K f) with
  | some ⟨_, _, .func fd, _⟩ => (match fd.code with
    | .ref c => c
    | _ => 0)
  | _ => 0
def tabAd (K : PySem.W.Frag) (f : Str) : Addr := match K.lookup (codeAd K f) with
  | some ⟨_, _, .fields vs, _⟩ => (match (vs[11]? : Option Value) with
    | some (.ref P) => P
    | _ => 0)
  | _ => 0
def lamT (lams : List Str) (K : PySem.W.Frag) : List (Addr × Str) := lams.map fun f => (tabAd K f, f ++ ".<locals>." ++ "<lambda>")
def codeHdB (K : PySem.W.Frag) (f : Str) : Bool := (match K.lookup (codeAd K f) with
  | some ⟨.type t, _, .fields vs, _⟩ => decide (t = "code") && (decide (vs[11]? = some (.ref (tabAd K f))) && ((match vs.getD 18 .none with
    | .str _ _ => true
    | _ => false) && ((match vs.getD 7 .none with
    | .int _ _ => true
    | _ => false) && ((match vs.getD 9 .none with
    | .bool _ => true
    | _ => false) && (match vs.getD 10 .none with
    | .int _ _ => true
    | _ => false)))))
  | _ => false) && !decide (codeAd K f = tabAd K f)
theorem codeHdB_ok {K : PySem.W.Frag} {h : Heap} (X : K.In h) {f : Str} (c : codeHdB K f = true) : PySem.W.CodeHd h (codeAd K f) (tabAd K f) := by
  obtain ⟨c1, c2⟩ := He.ba c
  cases q : K.lookup (codeAd K f) with
  | none => rw [q] at c1; cases c1
  | some o =>
    obtain ⟨oc, od, dt, sl⟩ := o
    rw [q] at c1
    cases oc with
    | type t =>
      cases dt with
      | fields vs =>
        simp only at c1
        obtain ⟨h1, c1⟩ := He.ba c1
        obtain ⟨h2, c1⟩ := He.ba c1
        obtain ⟨h3, c1⟩ := He.ba c1
        obtain ⟨h4, c1⟩ := He.ba c1
        obtain ⟨h5, h6⟩ := He.ba c1
        have h1 := of_decide_eq_true h1
        have h2 := of_decide_eq_true h2
        subst h1
        have g11 : vs.getD 11 .none = .ref (tabAd K f) := by rw [Array.getD_eq_getD_getElem?, h2]; rfl
        cases e18 : vs.getD 18 .none with
        | str file tf =>
          cases e7 : vs.getD 7 .none with
          | int flags tg =>
            cases e9 : vs.getD 9 .none with
            | bool inF =>
              cases e10 : vs.getD 10 .none with
              | int text tt => exact ⟨_, vs, file, tf, flags, tg, inF, text, tt, X _ _ q, rfl, rfl, h2, g11, e18, e7, e9, e10, by simpa using c2⟩
              | _ => rw [e10] at h6; cases h6
            | _ => rw [e9] at h5; cases h5
          | _ => rw [e7] at h4; cases h4
        | _ => rw [e18] at h3; cases h3
      | _ => cases c1
    | _ => cases c1
def CD.g (c : CD) : Cfg where
  cn := ⟨fun i => c.names.getD i (Str.ofString ""), lamT c.lams⟩
  sub := fun i k => (c.ins.find? fun t => t.1 == i && t.2.1 == k).map (·.2.2)
  esub := fun x k => (c.exc.find? fun t => decide (t.1 = x) && t.2.1 == k).map (·.2.2)
def clsB (K : PySem.W.Frag) (C : Addr) : Bool := PySem.W.plainGet K C Str.empty && (PySem.W.hasDictIn K C && (PySem.W.plainOver K C && He.eqO (PySem.W.findIn K (.ref C) "__setattr__") (some (some (.builtin "object.__setattr__")))))
theorem clsB_ok {K : PySem.W.Frag} {C : Addr} (c : clsB K C = true) : Cls K C := by
  obtain ⟨c1, c⟩ := He.ba c
  obtain ⟨c2, c⟩ := He.ba c
  obtain ⟨c3, c4⟩ := He.ba c
  exact ⟨c1, c2, c3, He.eqO_ok c4⟩
def insB (K : PySem.W.Frag) (C : Addr) : Bool := clsB K C && (He.eqO (PySem.W.findIn K (.ref C) "__class__") (some (some (.builtin "object.__class__"))) && (He.eqO (PySem.W.specialIn K (.builtin "object.__class__") "__get__") (some (some (.builtin "getset_descriptor.__get__"))) &&
  (decide (PySem.W.takesIn K (.builtin "object.__class__") = some true) && decide (PySem.W.mroIn K C (.type "object") = some true))))
def excCB (K : PySem.W.Frag) (D : Addr) : Bool := He.eqO (PySem.W.findIn K (.ref D) "__getattribute__") (some (some (.builtin "BaseException.__getattribute__"))) && (He.eqO (PySem.W.findIn K (.ref D) "__getattr__") (some none) && (decide (PySem.W.subIn K (.ref D) (.type "BaseException") = some true) &&
  (PySem.W.hasDictIn K D && (He.eqO (PySem.W.findIn K (.ref D) "__class__") (some (some (.builtin "object.__class__"))) && (He.eqO (PySem.W.specialIn K (.builtin "object.__class__") "__get__") (some (some (.builtin "getset_descriptor.__get__"))) &&
  (decide (PySem.W.takesIn K (.builtin "object.__class__") = some true) && decide (PySem.W.mroIn K D (.type "object") = some true)))))))
theorem excCB_ok {K : PySem.W.Frag} {D : Addr} (h : excCB K D = true) : ExcC K D := by
  obtain ⟨h1, h⟩ := He.ba h
  obtain ⟨h2, h⟩ := He.ba h
  obtain ⟨h3, h⟩ := He.ba h
  obtain ⟨h4, h⟩ := He.ba h
  obtain ⟨h5, h⟩ := He.ba h
  obtain ⟨h6, h⟩ := He.ba h
  obtain ⟨h7, h8⟩ := He.ba h
  exact ⟨He.eqO_ok h1, He.eqO_ok h2, of_decide_eq_true h3, h4, He.eqO_ok h5, He.eqO_ok h6, of_decide_eq_true h7, of_decide_eq_true h8⟩
def kitB1 (K : PySem.W.Frag) (a b : Value) (r : Bool) : Bool := decide (PySem.W.kitOne K a b = some r)
def kfB (K : PySem.W.Frag) (c : CD) : Bool :=
  (c.ins.all fun t => insB K (He.ga K (c.g.cn.nm t.1)) && kitB1 K (.ref (He.ga K (c.g.cn.nm t.1))) (.ref (He.ga K (c.g.cn.nm t.2.1))) t.2.2) &&
  ((c.ins.all fun t => bNames.all fun n => kitB1 K (.ref (He.ga K (c.g.cn.nm t.1))) (.type n) false && kitB1 K (.type n) (.ref (He.ga K (c.g.cn.nm t.1))) false) &&
  (c.exc.all fun t => excCB K (He.ga K t.1) && (kitB1 K (.ref (He.ga K t.1)) (.ref (He.ga K (c.g.cn.nm t.2.1))) t.2.2 && bNames.all fun n => kitB1 K (.ref (He.ga K t.1)) (.type n) false)))
theorem kf_of {K : PySem.W.Frag} {c : CD} (h : kfB K c = true) : KF K c.g := by
  obtain ⟨h1, h⟩ := He.ba h
  obtain ⟨h2, h3⟩ := He.ba h
  have fnd : ∀ {i k : Nat} {b : Bool}, c.g.sub i k = some b → (i, k, b) ∈ c.ins := fun {i k b} e => by
    simp only [CD.g, Option.map_eq_some_iff] at e
    obtain ⟨t, e1, e2⟩ := e
    have m := List.mem_of_find?_eq_some e1
    have p := List.find?_some e1
    simp only [Bool.and_eq_true, beq_iff_eq] at p
    obtain ⟨t1, t2, t3⟩ := t
    simp only at p e2
    obtain ⟨rfl, rfl⟩ := p
    subst e2
    exact m
  have fnE : ∀ {x : Str} {k : Nat} {b : Bool}, c.g.esub x k = some b → (x, k, b) ∈ c.exc := fun {x k b} e => by
    simp only [CD.g, Option.map_eq_some_iff] at e
    obtain ⟨t, e1, e2⟩ := e
    have m := List.mem_of_find?_eq_some e1
    have p := List.find?_some e1
    simp only [Bool.and_eq_true, beq_iff_eq, decide_eq_true_eq] at p
    obtain ⟨t1, t2, t3⟩ := t
    simp only at p e2
    obtain ⟨rfl, rfl⟩ := p
    subst e2
    exact m
  refine ⟨fun i k b e => ?_, fun k e t ht => ?_, fun x k b e => ?_⟩
  · have z := List.all_eq_true.mp h1 _ (fnd e)
    obtain ⟨z1, z2⟩ := He.ba z
    obtain ⟨y1, z1⟩ := He.ba z1
    obtain ⟨y2, z1⟩ := He.ba z1
    obtain ⟨y3, z1⟩ := He.ba z1
    obtain ⟨y4, y5⟩ := He.ba z1
    exact ⟨clsB_ok y1, He.eqO_ok y2, He.eqO_ok y3, of_decide_eq_true y4, of_decide_eq_true y5, of_decide_eq_true z2⟩
  · obtain ⟨b, e⟩ := Option.isSome_iff_exists.mp e
    have z := List.all_eq_true.mp h2 _ (fnd e)
    have z := List.all_eq_true.mp z t ht
    obtain ⟨z1, z2⟩ := He.ba z
    exact ⟨of_decide_eq_true z1, of_decide_eq_true z2⟩
  · have z := List.all_eq_true.mp h3 _ (fnE e)
    obtain ⟨z1, z⟩ := He.ba z
    obtain ⟨z2, z3⟩ := He.ba z
    exact ⟨excCB_ok z1, of_decide_eq_true z2, fun t ht => of_decide_eq_true (List.all_eq_true.mp z3 t ht)⟩

/-! ## what the head says -/
/-- a function object: a name's, a class's method, a property's getter, a static method's -/
inductive FAt where
  | glo (x : Str) | meth (c m : Str) | prop (c f : Str) | smeth (c m : Str)
def recAt (K : PySem.W.Frag) (T : String) (p : Addr) : Addr := match PySem.W.recIn K p T with
  | some (.ref g :: _) => g
  | _ => 0
def FAt.ad (K : PySem.W.Frag) : FAt → Addr
  | .glo x => He.ga K x
  | .meth c m => He.ma K (He.ga K c) m
  | .prop c f => recAt K "property" (He.ma K (He.ga K c) f)
  | .smeth c m => recAt K "staticmethod" (He.ma K (He.ga K c) m)
structure DX where
  at_ : FAt
  name : Str
  qual : Str
  params : Arguments
  body : List Stmt
  scope : Scope
inductive FX where
  | glo (x : Str) | free (x : Str) | con (x : Str) (d : D) | exc (x : Str) | mkr (c : Str) | cls (c : Str) | meth (c m : Str) | noat (c f : Str) | prop (c f : Str) | smeth (c m : Str) | kf (c : CD)
def FX.ok (K : PySem.W.Frag) : FX → Bool
  | .glo x => (He.Fa.glo x).ok K
  | .free x => (He.Fa.free x).ok K
  | .con x d => (match PySem.W.nsIn K mainGlobals x with
    | some (some u) => cvR K d u
    | _ => false)
  | .exc x => (He.Fa.glo x).ok K && (He.Fa.exc x).ok K
  | .mkr c => (He.Fa.glo c).ok K && (He.Fa.mkr c).ok K
  | .cls c => clsB K (He.ga K c)
  | .meth c m => (He.Fa.meth c m).ok K
  | .noat c f => (He.Fa.noat c f).ok K
  | .prop c f => He.eqO (PySem.W.findIn K (.ref (He.ga K c)) f) (some (some (.ref (He.ma K (He.ga K c) f)))) && (He.eqO (PySem.W.specialIn K (.ref (He.ma K (He.ga K c) f)) "__get__") (some (some (.builtin "property.__get__"))) &&
    (decide (PySem.W.takesIn K (.ref (He.ma K (He.ga K c) f)) = some true) && (match PySem.W.recIn K (He.ma K (He.ga K c) f) "property" with
      | some (.ref _ :: _) => true
      | _ => false)))
  | .smeth c m => He.eqO (PySem.W.specialIn K (.ref (He.ga K c)) "__getattribute__") (some (some (.builtin "type.__getattribute__"))) && (PySem.W.readsIn K (He.ga K c) (.type "type") && ((match PySem.W.findCls K (.ref (He.ga K c)) (.type "type") m with
      | some (.get (.builtin n) (.ref p) .none (.ref C)) => decide (n = "staticmethod.__get__") && (decide (p = He.ma K (He.ga K c) m) && decide (C = He.ga K c))
      | _ => false) && (match PySem.W.recIn K (He.ma K (He.ga K c) m) "staticmethod" with
      | some (.ref _ :: _) => true
      | _ => false)))
  | .kf c => kfB K c
def fnWa (K : PySem.W.Frag) (a : Addr) : He.FnW := match K.lookup a with
  | some ⟨_, _, .func fd, _⟩ => some (fd.name, fd.qualname, fd.params, fd.body, fd.scope, fd.globals, fd.closure, fd.builtins)
  | _ => none
def DX.val (d : DX) : He.FnW := some (d.name, d.qual, d.params, .stmts d.body, d.scope, mainGlobals, [], builtinsNs)
def DX.ok (K : PySem.W.Frag) (d : DX) : Bool := PySem.W.keepIn K (.ref (d.at_.ad K)) && (match K.lookup (d.at_.ad K) with
  | some ⟨_, _, .func fd, _⟩ => PySem.W.codeIn K fd.code d.qual && (He.dflB K fd.defaults [] && He.kwdB K fd.kwdefaults [])
  | _ => false)
theorem DX.funD {K : PySem.W.Frag} {d : DX} (e : fnWa K (d.at_.ad K) = d.val) (c : d.ok K = true) : ∃ fd, FunD K d.name d.qual d.params d.body d.scope [] [] (d.at_.ad K) fd := by
  obtain ⟨kp, c2⟩ := He.ba c
  unfold fnWa at e
  cases q : K.lookup (d.at_.ad K) with
  | none =>
    rw [q] at c2
    cases c2
  | some o =>
    obtain ⟨oc, od, dt, osl⟩ := o
    rw [q] at c2 e
    cases dt with
    | func fd =>
      obtain ⟨n1, n2, n3, n4, n5, n6, n7, n8, n9, n10, n11, n12, n13, n14, n15⟩ := fd
      have e2 : (some (n1, n2, n3, n4, n5, n6, n7, n15) : He.FnW) = some (d.name, d.qual, d.params, .stmts d.body, d.scope, mainGlobals, [], builtinsNs) := e
      simp only [Option.some.injEq, Prod.mk.injEq] at e2
      obtain ⟨h1, h2, h3, h4, h5, h6, h7, h8⟩ := e2
      subst h1 h2 h3 h4 h5 h6 h7 h8
      have c3 : (PySem.W.codeIn K n13 d.qual && (He.dflB K n8 [] && He.kwdB K n9 [])) = true := c2
      obtain ⟨k1, k2⟩ := He.ba c3
      obtain ⟨k3, k4⟩ := He.ba k2
      exact ⟨_, ⟨oc, od, n8, n9, n10, n11, n12, n13, n14, osl, rfl, q, k1, He.dflB_ok k3, He.kwdB_ok k4⟩, kp⟩
    | _ => cases c2
def obsX (fa : List FX) (fn : List DX) (K : PySem.W.Frag) : He.AlD := ((fa.all fun f => f.ok K) && fn.all fun d => d.ok K, fn.map fun d => fnWa K (d.at_.ad K))
def valX (fn : List DX) : He.AlD := (true, fn.map DX.val)
def SaysX (fa : List FX) (fn : List DX) (K : PySem.W.Frag) : Prop := obsX fa fn K = valX fn
/-- the tables of the lambdas' defs: empty, not of the fragment -/
def tabB (g : Addr → Option Obj) (K : PySem.W.Frag) (f : Str) : Bool := codeHdB K f && ((match g (tabAd K f) with
  | some ⟨.none, none, .fields vs, sl⟩ => decide (vs.size = 0) && decide (sl.size = 0)
  | _ => false) && (K.lookup (tabAd K f)).isNone)
def fragX (n : Nat) (lams : List Str) (g : Addr → Option Obj) : PySem.W.Frag :=
  let as := cStatics :: He.asD g n
  let K0 := He.frG g as
  let ps := lams.map (tabAd K0)
  He.frG g (as.filter fun a => !ps.contains a)
def obsXG (n : Nat) (lams : List Str) (fa : List FX) (fn : List DX) (g : Addr → Option Obj) : He.AlD :=
  ((obsX fa fn (fragX n lams g)).1 && lams.all (tabB g (fragX n lams g)), (obsX fa fn (fragX n lams g)).2)
structure TabOk (K : PySem.W.Frag) (h : Heap) (f : Str) : Prop where
  at_ : h.get? (tabAd K f) = some { cls := .none, data := .fields #[] }
  no : K.lookup (tabAd K f) = none
  hd : PySem.W.CodeHd h (codeAd K f) (tabAd K f)
theorem tabB_ok {K : PySem.W.Frag} {h : Heap} (X : K.In h) {f : Str} (c : tabB h.get? K f = true) : TabOk K h f := by
  obtain ⟨c1, c⟩ := He.ba c
  obtain ⟨c2, c3⟩ := He.ba c
  refine ⟨?_, by simpa using c3, codeHdB_ok X c1⟩
  cases q : h.get? (tabAd K f) with
  | none => rw [q] at c2; cases c2
  | some o =>
    obtain ⟨oc, od, dt, sl⟩ := o
    rw [q] at c2
    cases oc <;> cases od <;> cases dt <;> simp at c2
    obtain ⟨e1, e2⟩ := c2
    subst e1 e2
    rfl
def hookX (n : Nat) (lams : List Str) (fa : List FX) (fn : List DX) : PySem.W.Hook where
  α := He.AlD
  obs := fun s => obsXG n lams fa fn s.heap.get?
  val := fun _ => valX fn
  says := fun _ h => ∃ K : PySem.W.Frag, K.In h ∧ SaysX fa fn K ∧ ∀ f ∈ lams, TabOk K h f
  of := fun w s e => by
    have e1 : ((obsX fa fn (fragX n lams s.heap.get?)).1 && lams.all (tabB s.heap.get? (fragX n lams s.heap.get?))) = true := congrArg Prod.fst e
    have e2 : (obsX fa fn (fragX n lams s.heap.get?)).2 = fn.map DX.val := congrArg Prod.snd e
    obtain ⟨e3, e4⟩ := He.ba e1
    exact ⟨_, He.frG_in, Prod.ext e3 e2, fun f hf => tabB_ok He.frG_in (List.all_eq_true.mp e4 f hf)⟩
  keeps := fun _ _ _ ⟨K, hK, c, t⟩ k => ⟨K, PySem.W.Frag.In.keeps hK k, c, fun f hf => ⟨k _ _ (t f hf).at_, (t f hf).no, (t f hf).hd.keeps k⟩⟩
theorem obsXG_eq {n : Nat} {lams : List Str} {fa : List FX} {fn : List DX} {g : Addr → Option Obj} {s : Shared} (h : ∀ a, g a = s.heap.get? a) : obsXG n lams fa fn g = (hookX n lams fa fn).obs s := by
  have e : g = s.heap.get? := funext h
  rw [e] <;> rfl
/-- the law's world, as the walk reads it -/
structure SX0 (fa : List FX) (fn : List DX) (K : PySem.W.Frag) (mg : Str → Option Value) : Prop where
  says : SaysX fa fn K
  ns : ∃ h : Heap, K.In h ∧ h.Ns mainGlobals mg
structure SX (fa : List FX) (fn : List DX) (lams : List Str) (K : PySem.W.Frag) (mg : Str → Option Value) (base : Heap) : Prop extends SX0 fa fn K mg where
  tab : ∀ f ∈ lams, LamX.TabB base mg (codeAd K f) (tabAd K f)
section
variable {fa : List FX} {fn : List DX} {K : PySem.W.Frag} {mg : Str → Option Value}
theorem SX0.fact (S : SX0 fa fn K mg) (i : Nat) {f : FX} (h : fa[i]? = some f := by rfl) : f.ok K = true := by
  have c1 := (He.ba (show ((fa.all fun f => f.ok K) && fn.all fun d => d.ok K) = true from congrArg (fun z : He.AlD => z.1) S.says)).1
  exact List.all_eq_true.mp c1 f (List.mem_of_getElem? h)
theorem SX0.def_ (S : SX0 fa fn K mg) (i : Nat) {d : DX} (h : fn[i]? = some d := by rfl) : ∃ fd, FunD K d.name d.qual d.params d.body d.scope [] [] (d.at_.ad K) fd := by
  have c2 := (He.ba (show ((fa.all fun f => f.ok K) && fn.all fun d => d.ok K) = true from congrArg (fun z : He.AlD => z.1) S.says)).2
  have e : fn.map (fun d => fnWa K (d.at_.ad K)) = fn.map DX.val := congrArg (fun z : He.AlD => z.2) S.says
  have e2 : (fn.map fun d => fnWa K (d.at_.ad K))[i]? = (fn.map DX.val)[i]? := by rw [e]
  rw [List.getElem?_map, List.getElem?_map, h] at e2
  exact DX.funD (Option.some.inj e2) (List.all_eq_true.mp c2 d (List.mem_of_getElem? h))
theorem SX0.glo (S : SX0 fa fn K mg) (i : Nat) {x : Str} (h : fa[i]? = some (.glo x) := by rfl) : mg x = some (.ref (He.ga K x)) := let ⟨_, X, G⟩ := S.ns; He.glo_ok X G (S.fact i h)
theorem SX0.free (S : SX0 fa fn K mg) (i : Nat) {x : Str} (h : fa[i]? = some (.free x) := by rfl) : mg x = none := let ⟨_, X, G⟩ := S.ns; He.free_ok X G (S.fact i h)
theorem SX0.con (S : SX0 fa fn K mg) (i : Nat) {x : Str} {d : D} (h : fa[i]? = some (.con x d) := by rfl) : CoF K mg x d := by
  obtain ⟨_, X, G⟩ := S.ns
  have c := S.fact i h
  have c : (match PySem.W.nsIn K mainGlobals x with
    | some (some u) => cvR K d u
    | _ => false) = true := c
  cases e : PySem.W.nsIn K mainGlobals x with
  | none => rw [e] at c; cases c
  | some o =>
    rw [e] at c
    cases o with
    | none => cases c
    | some u => exact ⟨u, PySem.W.mg_of X G e, cvR_ok c⟩
theorem SX0.exc (S : SX0 fa fn K mg) (i : Nat) {x : Str} (h : fa[i]? = some (.exc x) := by rfl) : ExcF K mg x := by
  obtain ⟨_, X, G⟩ := S.ns
  obtain ⟨h1, h2⟩ := He.ba (S.fact i h)
  obtain ⟨k1, k2, k3, k4⟩ := He.exc_ok h2
  exact ⟨He.glo_ok X G h1, ⟨_, _, _, _, PySem.F.excBase_ValueError, k1⟩, k2, k3, k4⟩
theorem SX0.mkr (S : SX0 fa fn K mg) (i : Nat) {x : Str} (h : fa[i]? = some (.mkr x) := by rfl) : mg x = some (.ref (He.ga K x)) ∧ Mk K (He.ga K x) (He.ma K (He.ga K x) "__init__") := by
  obtain ⟨_, X, G⟩ := S.ns
  obtain ⟨h1, h2⟩ := He.ba (S.fact i h)
  exact ⟨He.glo_ok X G h1, He.mkr_ok h2⟩
theorem SX0.cls (S : SX0 fa fn K mg) (i : Nat) {x : Str} (h : fa[i]? = some (.cls x) := by rfl) : Cls K (He.ga K x) := clsB_ok (S.fact i h)
theorem SX0.meth (S : SX0 fa fn K mg) (i : Nat) {c m : Str} (h : fa[i]? = some (.meth c m) := by rfl) : Meth K (He.ga K c) m (FAt.ad K (.meth c m)) := He.meth_ok (S.fact i h)
theorem SX0.noat (S : SX0 fa fn K mg) (i : Nat) {c f : Str} (h : fa[i]? = some (.noat c f) := by rfl) : NoAttr K (He.ga K c) f := He.noat_ok (S.fact i h)
theorem SX0.prop (S : SX0 fa fn K mg) (i : Nat) {c f : Str} (h : fa[i]? = some (.prop c f) := by rfl) : PropOf K (He.ga K c) f (He.ma K (He.ga K c) f) (FAt.ad K (.prop c f)) := by
  obtain ⟨h1, h⟩ := He.ba (S.fact i h)
  obtain ⟨h2, h⟩ := He.ba h
  obtain ⟨h3, h4⟩ := He.ba h
  refine ⟨He.eqO_ok h1, He.eqO_ok h2, of_decide_eq_true h3, ?_⟩
  show ∃ rest, PySem.W.recIn K (He.ma K (He.ga K c) f) "property" = some (.ref (recAt K "property" (He.ma K (He.ga K c) f)) :: rest)
  unfold recAt
  split at h4
  · rename_i a b e; rw [e]; exact ⟨_, rfl⟩
  · cases h4
theorem SX0.smeth (S : SX0 fa fn K mg) (i : Nat) {c m : Str} (h : fa[i]? = some (.smeth c m) := by rfl) : SmOf K (He.ga K c) m (FAt.ad K (.smeth c m)) := by
  obtain ⟨h1, h⟩ := He.ba (S.fact i h)
  obtain ⟨h2, h⟩ := He.ba h
  obtain ⟨h3, h4⟩ := He.ba h
  refine ⟨He.eqO_ok h1, .type "type", h2, He.ma K (He.ga K c) m, ?_⟩
  show ∃ rest, PySem.W.findCls K (.ref (He.ga K c)) (.type "type") m = some (.get (.builtin "staticmethod.__get__") (.ref (He.ma K (He.ga K c) m)) .none (.ref (He.ga K c))) ∧ PySem.W.recIn K (He.ma K (He.ga K c) m) "staticmethod" = some (.ref (recAt K "staticmethod" (He.ma K (He.ga K c) m)) :: rest)
  unfold recAt
  split at h4
  · rename_i a b e
    rw [e]
    refine ⟨_, ?_, rfl⟩
    split at h3
    · rename_i n p C e2
      simp only [Bool.and_eq_true, decide_eq_true_eq] at h3
      obtain ⟨rfl, rfl, rfl⟩ := h3
      exact e2
    · cases h3
  · cases h4
theorem SX0.kf (S : SX0 fa fn K mg) (i : Nat) {c : CD} (h : fa[i]? = some (.kf c) := by rfl) : KF K c.g := kf_of (S.fact i h)
end
theorem tkF {X : Cx} : Takes X WF := fun _ _ ⟨_, _, _, _, _, _, _, _, _, _, _, _, _, _, _, _, w⟩ => w.elim
end Fx

namespace Fx
open PySem PySem.Spec PyProof.Rows L2

theorem R.bind_ok {a b : Type} {x : a} {st : Sto} {k : a → Sto → R b} : (R.ok x st).bind k = k x st := rfl
theorem eCall_one {f : D → Sto → R D} {m : ME} : eCall (fOne f) (aCons m aNil) = eUn f m := by
  funext env st
  unfold eCall eUn aCons aNil
  cases m env st <;> rfl
theorem eCall_two {f : D → D → Sto → R D} {m1 m2 : ME} : eCall (fTwo f) (aCons m1 (aCons m2 aNil)) = eBin f m1 m2 := by
  funext env st
  unfold eCall eBin aCons aNil
  cases m1 env st with
  | ok d st1 =>
    simp only [R.bind]
    cases m2 env st1 <;> rfl
  | _ => rfl
theorem blt_len : bootBuiltins "len" = some (.builtin "len") := by decide +kernel
theorem blt_all : bootBuiltins "all" = some (.builtin "all") := by decide +kernel
theorem blt_any : bootBuiltins "any" = some (.builtin "any") := by decide +kernel
theorem blt_sum : bootBuiltins "sum" = some (.builtin "sum") := by decide +kernel
theorem blt_abs : bootBuiltins "abs" = some (.builtin "abs") := by decide +kernel
theorem blt_max : bootBuiltins "max" = some (.builtin "max") := by decide +kernel
theorem blt_min : bootBuiltins "min" = some (.builtin "min") := by decide +kernel
theorem blt_int : bootBuiltins "int" = some (.type "int") := by decide +kernel
theorem blt_str : bootBuiltins "str" = some (.type "str") := by decide +kernel
theorem blt_list : bootBuiltins "list" = some (.type "list") := by decide +kernel
theorem blt_tuple : bootBuiltins "tuple" = some (.type "tuple") := by decide +kernel
theorem blt_bool : bootBuiltins "bool" = some (.type "bool") := by decide +kernel
theorem blt_dict : bootBuiltins "dict" = some (.type "dict") := by decide +kernel
section
variable {X : Cx} {g : Cfg} {cn : CN} {W : WX} {cl : Bool} {pos p q : Pos} {a b : Expr} {ma mb : ME}
theorem se_1 {e : Expr} {f : D → Sto → R D} {m : ME} (h : SndE X cn W cl e (eCall (fOne f) (aCons m aNil))) : SndE X cn W cl e (eUn f m) := by rw [eCall_one] at h; exact h
theorem se_2 {e : Expr} {f : D → D → Sto → R D} {m1 m2 : ME} (h : SndE X cn W cl e (eCall (fTwo f) (aCons m1 (aCons m2 aNil)))) : SndE X cn W cl e (eBin f m1 m2) := by rw [eCall_two] at h; exact h
theorem x_len (hg : Gl X "len") (hm : X.mg "len" = none) (ha : SndE X cn W cl a ma) (hs : starEach [a] X.env = (false, eval a X.env) :: starEach [] X.env := by rfl) : SndE X cn W cl (.Call (.Name "len" p) [a] [] pos) (eUn fLen ma) := se_1 (se_callB call_lenA oc_len hg hm blt_len (sa_cons ha sa_nil hs) (by decide) (by decide) hs)
theorem x_all (hc : X.calm = true) (hg : Gl X "all") (hm : X.mg "all" = none) (ha : SndE X cn W cl a ma) (hs : starEach [a] X.env = (false, eval a X.env) :: starEach [] X.env := by rfl) : SndE X cn W cl (.Call (.Name "all" p) [a] [] pos) (eUn fAll ma) := se_1 (se_callB (cr_all hc) oc_all hg hm blt_all (sa_cons ha sa_nil hs) (by decide) (by decide) hs)
theorem x_any (hc : X.calm = true) (hg : Gl X "any") (hm : X.mg "any" = none) (ha : SndE X cn W cl a ma) (hs : starEach [a] X.env = (false, eval a X.env) :: starEach [] X.env := by rfl) : SndE X cn W cl (.Call (.Name "any" p) [a] [] pos) (eUn fAny ma) := se_1 (se_callB (cr_any hc) oc_any hg hm blt_any (sa_cons ha sa_nil hs) (by decide) (by decide) hs)
theorem x_sum (hc : X.calm = true) (hg : Gl X "sum") (hm : X.mg "sum" = none) (ha : SndE X cn W cl a ma) (hs : starEach [a] X.env = (false, eval a X.env) :: starEach [] X.env := by rfl) : SndE X cn W cl (.Call (.Name "sum" p) [a] [] pos) (eUn fSum ma) := se_1 (se_callB (cr_sum hc) oc_sum hg hm blt_sum (sa_cons ha sa_nil hs) (by decide) (by decide) hs)
theorem x_abs (hg : Gl X "abs") (hm : X.mg "abs" = none) (ha : SndE X cn W cl a ma) (hs : starEach [a] X.env = (false, eval a X.env) :: starEach [] X.env := by rfl) : SndE X cn W cl (.Call (.Name "abs" p) [a] [] pos) (eUn fAbs ma) := se_1 (se_callB call_abs oc_abs hg hm blt_abs (sa_cons ha sa_nil hs) (by decide) (by decide) hs)
theorem x_max (hc : X.calm = true) (hg : Gl X "max") (hm : X.mg "max" = none) (ha : SndE X cn W cl a ma) (hb : SndE X cn W cl b mb) (hs : starEach [a, b] X.env = (false, eval a X.env) :: starEach [b] X.env := by rfl) (hs2 : starEach [b] X.env = (false, eval b X.env) :: starEach [] X.env := by rfl) (hpl : (backTo pos (starEach [b] X.env)).any (·.1) = false := by rfl) :
    SndE X cn W cl (.Call (.Name "max" p) [a, b] [] pos) (eBin fMax2 ma mb) := se_2 (se_callB (call_max2 hc) oc_max2 hg hm blt_max (sa_cons ha (sa_cons hb sa_nil hs2) hs) (by decide) (by decide) hs hpl)
theorem x_min (hc : X.calm = true) (hg : Gl X "min") (hm : X.mg "min" = none) (ha : SndE X cn W cl a ma) (hb : SndE X cn W cl b mb) (hs : starEach [a, b] X.env = (false, eval a X.env) :: starEach [b] X.env := by rfl) (hs2 : starEach [b] X.env = (false, eval b X.env) :: starEach [] X.env := by rfl) (hpl : (backTo pos (starEach [b] X.env)).any (·.1) = false := by rfl) :
    SndE X cn W cl (.Call (.Name "min" p) [a, b] [] pos) (eBin fMin2 ma mb) := se_2 (se_callB (call_min2 hc) oc_min2 hg hm blt_min (sa_cons ha (sa_cons hb sa_nil hs2) hs) (by decide) (by decide) hs hpl)
theorem x_int (hg : Gl X "int") (hm : X.mg "int" = none) (ha : SndE X cn W cl a ma) (hs : starEach [a] X.env = (false, eval a X.env) :: starEach [] X.env := by rfl) : SndE X cn W cl (.Call (.Name "int" p) [a] [] pos) (eUn fInt ma) := se_1 (se_callTy call_int1 oc_int hg hm blt_int (sa_cons ha sa_nil hs) (by decide) (by decide) hs)
theorem x_str (hg : Gl X "str") (hm : X.mg "str" = none) (ha : SndE X cn W cl a ma) (hs : starEach [a] X.env = (false, eval a X.env) :: starEach [] X.env := by rfl) : SndE X cn W cl (.Call (.Name "str" p) [a] [] pos) (eUn fStr ma) := se_1 (se_callTy call_str_int oc_str hg hm blt_str (sa_cons ha sa_nil hs) (by decide) (by decide) hs)
theorem x_list (hg : Gl X "list") (hm : X.mg "list" = none) (ha : SndE X cn W cl a ma) (hs : starEach [a] X.env = (false, eval a X.env) :: starEach [] X.env := by rfl) : SndE X cn W cl (.Call (.Name "list" p) [a] [] pos) (eUn fListOf ma) := se_1 (se_callTy call_list_of oc_list hg hm blt_list (sa_cons ha sa_nil hs) (by decide) (by decide) hs)
theorem x_tuple (hg : Gl X "tuple") (hm : X.mg "tuple" = none) (ha : SndE X cn W cl a ma) (hs : starEach [a] X.env = (false, eval a X.env) :: starEach [] X.env := by rfl) : SndE X cn W cl (.Call (.Name "tuple" p) [a] [] pos) (eUn fTupOf ma) := se_1 (se_callTy call_tuple_of oc_tuple hg hm blt_tuple (sa_cons ha sa_nil hs) (by decide) (by decide) hs)
end

/-! ## blocks -/
def blkB (N : List Str) (sc scope : Scope) (own : List (Str × Nat)) : Bool :=
  decide (scope.kind = .function) && ((scope.names.all fun y => decide (scope.names.lookup y.1 = some y.2)) && ((own.all fun p => decide (N[p.2]? = some p.1)) &&
  ((scope.names.all fun y => !decide (y.2 = .free) || (decide (sc.names.lookup y.1 = some .cell) || decide (sc.names.lookup y.1 = some .free))) &&
  (scope.names.all fun y => !(decide (y.2 = .local) || decide (y.2 = .cell)) || (decide (y.1 ∈ own.map (·.1)) || decide (y.1 ∉ N))))))
theorem blk_of {N : List Str} {sc scope : Scope} {own : List (Str × Nat)} (h : blkB N sc scope own = true) : BlkOk N sc scope own := by
  obtain ⟨h1, h⟩ := He.ba h
  obtain ⟨h2, h⟩ := He.ba h
  obtain ⟨h3, h⟩ := He.ba h
  obtain ⟨h4, h5⟩ := He.ba h
  refine ⟨of_decide_eq_true h1, fun y hy => of_decide_eq_true (List.all_eq_true.mp h2 y hy), fun p hp => of_decide_eq_true (List.all_eq_true.mp h3 p hp), fun y hy e => ?_, fun y hy e => ?_⟩
  · have z := List.all_eq_true.mp h4 y hy
    simp only [e, decide_true, Bool.not_true, Bool.false_or, Bool.or_eq_true, decide_eq_true_eq] at z
    exact z
  · have z := List.all_eq_true.mp h5 y hy
    rcases e with e | e
    · simp only [e, decide_true, Bool.true_or, Bool.not_true, Bool.false_or, Bool.or_eq_true, decide_eq_true_eq] at z
      exact z
    · simp only [e, decide_true, Bool.or_true, Bool.not_true, Bool.false_or, Bool.or_eq_true, decide_eq_true_eq] at z
      exact z
def scB (N P : List Str) (sc : Scope) : Bool := decide (sc.kind = .function) && (!sc.isCoroutine && (!sc.isGenerator && (decide N.Nodup && (decide (N.take P.length = P) && ((P.all fun x => decide (sc.names.lookup x = some .local) || decide (sc.names.lookup x = some .cell)) && (sc.names.all fun y => !decide (y.2 = .free)))))))
theorem sc_of {N P : List Str} {sc : Scope} (h : scB N P sc = true) : FnScope N P sc := by
  obtain ⟨h1, h⟩ := He.ba h
  obtain ⟨h2, h⟩ := He.ba h
  obtain ⟨h3, h⟩ := He.ba h
  obtain ⟨h4, h⟩ := He.ba h
  obtain ⟨h5, h⟩ := He.ba h
  obtain ⟨h6, h7⟩ := He.ba h
  refine ⟨of_decide_eq_true h1, by simpa using h2, by simpa using h3, of_decide_eq_true h4, of_decide_eq_true h5, fun x hx => ?_, fun y hy => ?_⟩
  · have z := List.all_eq_true.mp h6 x hx
    simp only [Bool.or_eq_true, decide_eq_true_eq] at z
    exact z
  · have z := List.all_eq_true.mp h7 y hy
    simpa using z

/-! ## tables of methods -/
def tab (l : List (Nat × FS)) (c : Nat) : Option FS := l.lookup c
section
variable {P : Program} {w : World} {K : PySem.W.Frag} {mg : Str → Option Value} {base : Heap} {cn : CN} {m : Str} {k i : Nat} {sem : FS} {l : List (Nat × FS)}
theorem meth_nil : MethOk P w K mg base cn m k (tab []) := fun c sem h => by cases h
theorem meth_cons {f : Addr} (h1 : Cls K (ca K cn i)) (h2 : Meth K (ca K cn i) m f) (h3 : FnT P w K mg base cn f k sem) (h : MethOk P w K mg base cn m k (tab l)) : MethOk P w K mg base cn m k (tab ((i, sem) :: l)) := fun c s e => by
  unfold tab at e
  simp only [List.lookup] at e
  split at e
  · rename_i q
    have q := eq_of_beq q
    subst q
    cases e
    exact ⟨f, h1, h2, h3⟩
  · exact h c s e
theorem prop_nil : PropOk P w K mg base cn m k (tab []) := fun c sem h => by cases h
theorem prop_cons {p f : Addr} (h1 : Cls K (ca K cn i)) (h2 : PropOf K (ca K cn i) m p f) (h3 : FnT P w K mg base cn f k sem) (h : PropOk P w K mg base cn m k (tab l)) : PropOk P w K mg base cn m k (tab ((i, sem) :: l)) := fun c s e => by
  unfold tab at e
  simp only [List.lookup] at e
  split at e
  · rename_i q
    have q := eq_of_beq q
    subst q
    cases e
    exact ⟨p, f, h1, h2, h3⟩
  · exact h c s e
def ftab (l : List Nat) (c : Nat) : Bool := l.contains c
theorem fld_nil : FldOk K cn (ftab []) m := fun c h => by simp [ftab] at h
theorem fld_cons {l : List Nat} (h1 : Cls K (ca K cn i)) (h2 : NoAttr K (ca K cn i) m) (h : FldOk K cn (ftab l) m) : FldOk K cn (ftab (i :: l)) m := fun c e => by
  by_cases q : c = i
  · subst q; exact ⟨h1, h2⟩
  · refine h c ?_
    unfold ftab at e ⊢
    rw [List.contains_cons] at e
    have : (c == i) = false := beq_eq_false_iff_ne.mpr q
    rw [this] at e
    exact e
end
/-! ## a def that calls itself: nothing is said at fuel 0 -/
theorem ok_bad {P : Program} {w : World} {K : PySem.W.Frag} {mg : Str → Option Value} {base : Heap} {cn : CN} {x qual : Str} {params : Arguments} {body : List Stmt} {scope : Scope} {f : Addr} {k : Nat} (gf : mg x = some (.ref f)) (F : ∃ fd, FunD K x qual params body scope [] [] f fd) : FnS P w K mg base cn x k (fun _ _ => .bad) := by
  obtain ⟨fd, F⟩ := F
  exact ⟨f, gf, F.kp, fun A outer s H us vs Q E hr e0 r ⟨_, _, _, _, _, _, _, p⟩ => p.elim⟩
/-! ## for over a range whose ends read own lists -/
section
variable {X : Cx} {cn : CN} {W : WX} {pos pos' p : Pos} {tg a b : Expr} {body : List Stmt} {t : Tg} {m m2 : ME} {mb : MS} {k : Nat}
theorem ss_forR1 (c : Ctx X W k) (hg' : Gl X "range") (hm : X.mg "range" = none) (ha : SndE X cn W false a m) (hg : PG X tg (tgG X.K t)) (hb : SndSs X cn W body mb) (hs0 : starEach [a] X.env = [(false, eval a X.env)] := by rfl) (hs : ∀ x, foldedSetIterable (.Call (.Name "range" p) [a] [] pos) X.env x = pure x := by intro _; rfl) :
    SndS X cn W (.For tg (.Call (.Name "range" p) [a] [] pos) body [] pos') (mFor (itR1 m) t mb) :=
  ps_imp (ps_for c.po c.calm (pi_range1 hg' hm (sa_cons ha sa_nil hs0) hs0) hg hb hs) fun Dn s H ⟨r0, H0, r, env, st, Ex, o, q⟩ => by
    have q : PostS X.K cn W Ex r0 H0 ((m env st).stm env fun d st1 => ((match d with
      | .int n => if decide (n.natAbs < 100000) = true then .ok (rngD 0 n.toNat) st1 else .bad
      | _ => .bad) : R (List D)).stmA env fun ds st1 => forGo t mb ds env st1) Dn := by
      unfold mFor itR1 at q
      cases e : m env st with
      | ok d st1 => rw [e] at q; exact q
      | exc c f st1 => rw [e] at q; exact q
      | bad => rw [e] at q; exact q
    refine tMA_one (o.at_ (cl := false)) ((PostS.ofE (cl := false) o q).mono fun v H1 ⟨r1, d, st1, g, o1, rd, p1⟩ => ?_)
    cases d with
    | int n =>
      cases rd
      by_cases hz : decide (n.natAbs < 100000) = true
      · simp only at p1
        rw [if_pos hz] at p1
        have hz := of_decide_eq_true hz
        exact ⟨n, rfl, by omega, by omega, forGo_ok (Ex0 := Ex) o1 iter_rng rfl rfl p1⟩
      · simp only at p1
        rw [if_neg hz] at p1; exact p1.elim
    | _ => exact p1.elim
end
/-- the statements of a class -/
def cBody (s : Stmt) : List Stmt := match s with
  | .ClassDef _ _ _ b _ _ _ _ _ _ _ => b
  | _ => []
end Fx

namespace Fx
open PySem PySem.Spec PySem.Calls PyProof.Rows L2
/-! ## the fragment by a given list of addresses -/
def obsXL (as : List Addr) (lams : List Str) (fa : List FX) (fn : List DX) (g : Addr → Option Obj) : He.AlD :=
  ((obsX fa fn (He.frG g as)).1 && lams.all (tabB g (He.frG g as)), (obsX fa fn (He.frG g as)).2)
def hookXL (as : List Addr) (lams : List Str) (fa : List FX) (fn : List DX) : PySem.W.Hook where
  α := He.AlD
  obs := fun s => obsXL as lams fa fn s.heap.get?
  val := fun _ => valX fn
  says := fun _ h => ∃ K : PySem.W.Frag, K.In h ∧ SaysX fa fn K ∧ ∀ f ∈ lams, TabOk K h f
  of := fun w s e => by
    have e1 : ((obsX fa fn (He.frG s.heap.get? as)).1 && lams.all (tabB s.heap.get? (He.frG s.heap.get? as))) = true := congrArg Prod.fst e
    have e2 : (obsX fa fn (He.frG s.heap.get? as)).2 = fn.map DX.val := congrArg Prod.snd e
    obtain ⟨e3, e4⟩ := He.ba e1
    exact ⟨_, He.frG_in, Prod.ext e3 e2, fun f hf => tabB_ok He.frG_in (List.all_eq_true.mp e4 f hf)⟩
  keeps := fun _ _ _ ⟨K, hK, c, t⟩ k => ⟨K, PySem.W.Frag.In.keeps hK k, c, fun f hf => ⟨k _ _ (t f hf).at_, (t f hf).no, (t f hf).hd.keeps k⟩⟩
theorem obsXL_eq {as : List Addr} {lams : List Str} {fa : List FX} {fn : List DX} {g : Addr → Option Obj} {s : Shared} (h : ∀ a, g a = s.heap.get? a) : obsXL as lams fa fn g = (hookXL as lams fa fn).obs s := by
  have e : g = s.heap.get? := funext h
  rw [e] <;> rfl
end Fx

namespace Fx
open PySem PySem.Spec PyProof.Rows L2

/-! ## the end: from the law's sem to the law -/
section
variable {P : Program} {w : World} {K : PySem.W.Frag} {mg : Str → Option Value} {base : Heap} {cn : CN} {k : Nat} {f : Addr} {fd : FuncData} {ps : List Str} {sp : Sp}
/-- no exception is let out -/
theorem fnOk_end (F : FnOk P w K mg base (L2.CX P w) k f fd ps sp) : FnOk P w K mg base L2.CX0 k f fd ps (fun vs H Q _ => sp vs H Q (fun _ _ _ => False)) :=
  ⟨fun vs H Q E h => F.len vs H Q _ h, fun A outer s H args us vs Q E hr e0 hb hv hs => codeAny_mono (F.run A outer s H args us vs Q _ hr e0 hb hv hs) fun r s' h => by
    cases r with
    | ok fl =>
      cases fl with
      | ret u => exact h
      | _ => exact h
    | error e =>
      obtain ⟨_, _, _, _, _, _, _, _, _, _, _, _, z⟩ := h
      exact z⟩
theorem scr_at {sem : FS} {H : Hp} {a : Addr} {ns : List Int} (hT : LamX.Tabs (cn.T K) H) (hS : SqL K H a (ns.map V.int)) (h : ∃ st, sem [.scr ns] [] = .ok (.bl true) st) : spOf K cn sem [.ref a] H (fun v _ => v = .bl true) (fun _ _ _ => False) := by
  obtain ⟨st, e⟩ := h
  refine ⟨[], [.scr ns], [], Nil, ⟨List.nodup_nil, rfl, fun n mo a h => by simp at h, hT⟩, fun a z => z.elim, .cons ?_ .nil, ?_⟩
  · rcases hS with hS | hS
    · exact .scr hS (by simp) (fun z => z)
    · exact .scrK hS
  · rw [e]
    exact fun r' v H' _ _ rd => by cases rd; rfl
end
/-- the code objects of the defs that hold lambdas, and their tables -/
def csX (K : PySem.W.Frag) (lams : List Str) : List (Addr × Addr) := lams.map fun f => (codeAd K f, tabAd K f)
theorem csX_all {K : PySem.W.Frag} {lams : List Str} {p : Addr × Addr → Prop} (h : ∀ f ∈ lams, p (codeAd K f, tabAd K f)) : ∀ q ∈ csX K lams, p q := fun q hq => by
  obtain ⟨f, hf, e⟩ := List.mem_map.mp hq
  rw [← e]; exact h f hf
theorem csX_of {K : PySem.W.Frag} {lams : List Str} {p : Addr × Addr → Prop} (h : ∀ q ∈ csX K lams, p q) : ∀ f ∈ lams, p (codeAd K f, tabAd K f) := fun f hf => h _ (List.mem_map.mpr ⟨f, hf, rfl⟩)
theorem tabs_of {K : PySem.W.Frag} {lams : List Str} {H : Hp} (h : ∀ q ∈ csX K lams, H q.2 = some (.tbl #[])) : LamX.Tabs (lamT lams K) H := fun p hp => by
  obtain ⟨f, hf, e⟩ := List.mem_map.mp hp
  rw [← e]
  exact .nil (csX_of (p := fun q => H q.2 = some (.tbl #[])) h f hf)
theorem lawAt {l : PySem.W.OpenLaw} {w : World} {K : PySem.W.Frag} {k n : Nat} {x : Str} {mg : Str → Option Value} {fa : Addr} {h : Heap} {lams : List Str} {fd : FuncData} {sem : FS} {cn : CN} (hcn : cn.T = lamT lams)
    (t : ∀ f ∈ lams, TabOk K h f) (hb : ∀ (s : Shared) (u : Value), BindsTo s fd ⟨[u], []⟩ [(x, u)]) (hplain : ∀ ns : List Int, ns.length ≤ n → ∃ st, sem [.scr ns] [] = .ok (.bl true) st)
    (hF : ∀ base : Heap, K.In base → base.Ns mainGlobals mg → (∀ f ∈ lams, LamX.TabB base mg (codeAd K f) (tabAd K f)) → FnOk l.prog w K mg base (L2.CX l.prog w) k fa fd [x] (fun vs H Q E => vs.length = 1 ∧ spOf K cn sem vs H Q E)) :
    LamX.LawAtS l w K L2.CX0 k n x mg fa h :=
  ⟨fd, csX K lams, fun vs H Q _ => vs.length = 1 ∧ spOf K cn sem vs H Q (fun _ _ _ => False), csX_all fun f hf => (t f hf).at_, csX_all fun f hf => (t f hf).no, csX_all fun f hf => (t f hf).hd, hb, fun H a ns hl _ hT hS => ⟨rfl, scr_at (by rw [hcn]; exact tabs_of hT) hS (hplain ns hl)⟩, fun base hK hG hT => fnOk_end (hF base hK hG (csX_of (p := fun q => LamX.TabB base mg q.1 q.2) hT))⟩
end Fx

namespace Fx
open PySem PySem.Spec PyProof.Rows L2

/-! ## plain: the meanings, evaluated from the inside out -/
def bin2 (f : D → D → Sto → R D) (x : D) : R D → R D
  | .ok y st => f x y st
  | .exc c e st => .exc c e st
  | .bad => .bad
def bin1 (f : D → D → Sto → R D) (mb : ME) (env : SEnv) : R D → R D
  | .ok x st => bin2 f x (mb env st)
  | .exc c e st => .exc c e st
  | .bad => .bad
def un1 (f : D → Sto → R D) : R D → R D
  | .ok x st => f x st
  | .exc c e st => .exc c e st
  | .bad => .bad
def call1 (f : FS) : R (List D) → R D
  | .ok x st => f x st
  | .exc c e st => .exc c e st
  | .bad => .bad
def cons2 (x : D) : R (List D) → R (List D)
  | .ok xs st => .ok (x :: xs) st
  | .exc c e st => .exc c e st
  | .bad => .bad
def cons1 (mr : MA) (env : SEnv) : R D → R (List D)
  | .ok x st => cons2 x (mr env st)
  | .exc c e st => .exc c e st
  | .bad => .bad
def tup1 : R (List D) → R D
  | .ok xs st => if sz xs.length = true then .ok (.tup xs) st else .bad
  | .exc c e st => .exc c e st
  | .bad => .bad
def lst1 : R (List D) → R D
  | .ok xs st => if sz xs.length = true then .ok (.lst xs) st else .bad
  | .exc c e st => .exc c e st
  | .bad => .bad
def lstO1 : R (List D) → R D
  | .ok xs st => if (sz xs.length && noLsts xs) = true then .ok (.obj st.length) (st ++ [.lst xs]) else .bad
  | .exc c e st => .exc c e st
  | .bad => .bad
def new1 : R (List D) → R D
  | .ok xs st => .ok (.lst xs) st
  | .exc c e st => .exc c e st
  | .bad => .bad
def nlst1 : R (List D) → R (List D)
  | .ok xs st => if sz xs.length = true then .ok xs st else .bad
  | .exc c e st => .exc c e st
  | .bad => .bad
def and1 (mb : ME) (env : SEnv) : R D → R D
  | .ok (.bl b) st => if b = true then mb env st else .ok (.bl false) st
  | .exc c e st => .exc c e st
  | _ => .bad
def or1 (mb : ME) (env : SEnv) : R D → R D
  | .ok (.bl b) st => if b = true then .ok (.bl true) st else mb env st
  | .exc c e st => .exc c e st
  | _ => .bad
def not1 : R D → R D
  | .ok (.bl b) st => .ok (.bl (!b)) st
  | .exc c e st => .exc c e st
  | _ => .bad
def if1 (ma mb : ME) (env : SEnv) : R D → R D
  | .ok (.bl b) st => if b = true then ma env st else mb env st
  | .exc c e st => .exc c e st
  | _ => .bad
def chain3 (g : D → D → Sto → R D) (y : D) (mc : ME) (env : SEnv) : R D → R D
  | .ok (.bl b) st => if b = true then bin2 g y (mc env st) else .ok (.bl false) st
  | .exc c e st => .exc c e st
  | _ => .bad
def chain2 (f g : D → D → Sto → R D) (x : D) (mc : ME) (env : SEnv) : R D → R D
  | .ok y st => chain3 g y mc env (f x y st)
  | .exc c e st => .exc c e st
  | .bad => .bad
def chain1 (f g : D → D → Sto → R D) (mb mc : ME) (env : SEnv) : R D → R D
  | .ok x st => chain2 f g x mc env (mb env st)
  | .exc c e st => .exc c e st
  | .bad => .bad
def sl3 (x : D) (lo : Option Int) : R (Option Int) → R D
  | .ok hi st => fSl x lo hi st
  | .exc c e st => .exc c e st
  | .bad => .bad
def sl2 (x : D) (mh : SEnv → Sto → R (Option Int)) (env : SEnv) : R (Option Int) → R D
  | .ok lo st => sl3 x lo (mh env st)
  | .exc c e st => .exc c e st
  | .bad => .bad
def sl1 (ml mh : SEnv → Sto → R (Option Int)) (env : SEnv) : R D → R D
  | .ok x st => sl2 x mh env (ml env st)
  | .exc c e st => .exc c e st
  | .bad => .bad
def osome1 : R D → R (Option Int)
  | .ok (.int i) st => .ok (some i) st
  | .exc c e st => .exc c e st
  | _ => .bad
def seq1 (m2 : MS) : RS → RS
  | .nx env st => m2 env st
  | x => x
def ret1 (env : SEnv) : R D → RS
  | .ok d st => .rt d st
  | .exc c e st => .exc c e env st
  | .bad => .bad
def sif1 (m1 m2 : MS) (env : SEnv) : R D → RS
  | .ok (.bl b) st => if b = true then m1 env st else m2 env st
  | .exc c e st => .exc c e env st
  | _ => .bad
def drop1 (env : SEnv) : R D → RS
  | .ok d st => .nx env st
  | .exc c e st => .exc c e env st
  | .bad => .bad
def set1 (i : Nat) (env : SEnv) : R D → RS
  | .ok d st => .nx (env.set i (.val d)) st
  | .exc c e st => .exc c e env st
  | .bad => .bad
def setU1 (i : Nat) (env : SEnv) : R D → RS
  | .ok d st => if noLst d = true then .nx (env.set i (.val d)) st else .bad
  | .exc c e st => .exc c e env st
  | .bad => .bad
def own1 (i : Nat) (env : SEnv) : R (List D) → RS
  | .ok d st => .nx (env.set i (.own d)) st
  | .exc c e st => .exc c e env st
  | .bad => .bad
def set_1 (i : Nat) (env : SEnv) : R (List D) → RS
  | .ok d st => .nx (env.set i (.val (.lst d))) st
  | .exc c e st => .exc c e env st
  | .bad => .bad
def setN1 (i : Nat) (env : SEnv) : R (List D) → RS
  | .ok d st => if noLsts d = true then .nx (env.set i (.val (.lst d))) st else .bad
  | .exc c e st => .exc c e env st
  | .bad => .bad
def app1 (i : Nat) (env : SEnv) (xs : List D) : R D → RS
  | .ok d st => if sz (xs.length + 1) = true then .nx (env.set i (.own (xs ++ [d]))) st else .bad
  | .exc c e st => .exc c e env st
  | .bad => .bad
def appU1 (i : Nat) (env : SEnv) (xs : List D) : R D → RS
  | .ok d st => if (sz (xs.length + 1) && noLst d) = true then .nx (env.set i (.own (xs ++ [d]))) st else .bad
  | .exc c e st => .exc c e env st
  | .bad => .bad
def put2 (i : Nat) (env : SEnv) (xs : List D) (d : D) : R D → RS
  | .ok (.int k) st => (match ixN xs.length k with
    | some j => .nx (env.set i (.own (xs.set j d))) st
    | none => .bad)
  | .exc c e st => .exc c e env st
  | _ => .bad
def put1 (i : Nat) (mk : ME) (env : SEnv) (xs : List D) : R D → RS
  | .ok d st => put2 i env xs d (mk env st)
  | .exc c e st => .exc c e env st
  | .bad => .bad
def putU1 (i : Nat) (mk : ME) (env : SEnv) (xs : List D) : R D → RS
  | .ok d st => if noLst d = true then put2 i env xs d (mk env st) else match mk env st with
    | .exc c e st => .exc c e env st
    | _ => .bad
  | .exc c e st => .exc c e env st
  | .bad => .bad
def cat1 (i : Nat) (env : SEnv) (xs : List D) : R D → RS
  | .ok (.lst ys) st => if sz (xs.length + ys.length) = true then .nx (env.set i (.own (xs ++ ys))) st else .bad
  | .exc c e st => .exc c e env st
  | _ => .bad
/-- a store list's item set -/
def storeAt (n : Nat) (j : Int) (d : D) (env : SEnv) (st : Sto) : RS := match st[n]? with
  | some (.lst ds) => (match (if noLst d = true then ixN ds.length j else none) with
    | some t => .nx env (st.set n (.lst (ds.set t d)))
    | none => .bad)
  | _ => .bad
def putO3 (env : SEnv) (d x : D) : R D → RS
  | .ok i st => (match x, i with
    | .obj n, .int j => storeAt n j d env st
    | _, _ => .bad)
  | .exc c e st => .exc c e env st
  | .bad => .bad
def putO2 (mk : ME) (env : SEnv) (d : D) : R D → RS
  | .ok x st => putO3 env d x (mk env st)
  | .exc c e st => .exc c e env st
  | .bad => .bad
def putO1 (mo mk : ME) (env : SEnv) : R D → RS
  | .ok d st => putO2 mk env d (mo env st)
  | .exc c e st => .exc c e env st
  | .bad => .bad
def for1 (t : Tg) (mb : MS) (env : SEnv) : R (List D) → RS
  | .ok ds st => forGo t mb ds env st
  | .exc c e st => .exc c e env st
  | .bad => .bad
def seqI1 : R D → R (List D)
  | .ok d st => seqD d st
  | .exc c e st => .exc c e st
  | .bad => .bad
def r11 : R D → R (List D)
  | .ok (.int n) st => if decide (n.natAbs < 100000) = true then .ok (rngD 0 n.toNat) st else .bad
  | .exc c e st => .exc c e st
  | _ => .bad
def fn1 : RS → R D
  | .nx _ st => .ok .non st
  | .rt d st => .ok d st
  | .exc c e _ st => .exc c e st
  | _ => .bad
def lc1 (ck : Bool) (t : Tg) (mt me : ME) (vs : List Nat) (env : SEnv) : R (List D) → R (List D)
  | .ok ds st => (match lcGo ck t mt me ds (wipeE env vs) st with
    | .ok es st2 => if sz es.length = true then .ok es st2 else .bad
    | _ => .bad)
  | .exc c e st => .exc c e st
  | .bad => .bad
section
variable {env : SEnv} {st : Sto} {m ma mb mc mo mk : ME} {mr mi : MA} {i j n : Nat} {d x y : D} {f g : D → D → Sto → R D} {h : D → Sto → R D} {fs : FS} {m1 m2 : MS} {c : Nat} {e : List (Str × D)} {xs : List D} {t : Tg} {ml mh : SEnv → Sto → R (Option Int)} {lo hi : Option Int} {b : Bool}
@[simp] theorem pv_C (d : D) : eC d env st = .ok d st := rfl
@[simp] theorem pv_bin : eBin f ma mb env st = bin1 f mb env (ma env st) := by unfold eBin bin1; cases ma env st; rotate_left 1; rfl; rfl; (rename_i d st1; show (mb env st1).bind _ = bin2 f d (mb env st1); cases mb env st1 <;> rfl)
@[simp] theorem bin1_ok : bin1 f mb env (.ok x st) = bin2 f x (mb env st) := rfl
@[simp] theorem bin2_ok : bin2 f x (.ok y st) = f x y st := rfl
@[simp] theorem bin1_exc : bin1 f mb env (.exc c e st) = .exc c e st := rfl
@[simp] theorem bin2_exc : bin2 f x (.exc c e st) = .exc c e st := rfl
@[simp] theorem pv_un : eUn h ma env st = un1 h (ma env st) := by unfold eUn un1; cases ma env st <;> rfl
@[simp] theorem un1_ok : un1 h (.ok x st) = h x st := rfl
@[simp] theorem un1_exc : un1 h (.exc c e st) = .exc c e st := rfl
@[simp] theorem pv_call : eCall fs mr env st = call1 fs (mr env st) := by unfold eCall call1; cases mr env st <;> rfl
@[simp] theorem call1_ok : call1 fs (.ok xs st) = fs xs st := rfl
@[simp] theorem call1_exc : call1 fs (.exc c e st) = .exc c e st := rfl
@[simp] theorem pv_nil : aNil env st = .ok [] st := rfl
@[simp] theorem pv_cons : aCons ma mr env st = cons1 mr env (ma env st) := by unfold aCons cons1; cases ma env st; rotate_left 1; rfl; rfl; (rename_i d st1; show (mr env st1).bind _ = cons2 d (mr env st1); cases mr env st1 <;> rfl)
@[simp] theorem cons1_ok : cons1 mr env (.ok x st) = cons2 x (mr env st) := rfl
@[simp] theorem cons2_ok : cons2 x (.ok xs st) = .ok (x :: xs) st := rfl
@[simp] theorem cons1_exc : cons1 mr env (.exc c e st) = .exc c e st := rfl
@[simp] theorem cons2_exc : cons2 x (.exc c e st) = .exc c e st := rfl
@[simp] theorem pv_tup : eTup mr env st = tup1 (mr env st) := by unfold eTup tup1; cases mr env st <;> rfl
@[simp] theorem tup1_ok : tup1 (.ok xs st) = if sz xs.length = true then .ok (.tup xs) st else .bad := rfl
@[simp] theorem tup1_exc : tup1 (.exc c e st) = .exc c e st := rfl
@[simp] theorem pv_lst : eLst mr env st = lst1 (mr env st) := by unfold eLst lst1; cases mr env st <;> rfl
@[simp] theorem lst1_ok : lst1 (.ok xs st) = if sz xs.length = true then .ok (.lst xs) st else .bad := rfl
@[simp] theorem lst1_exc : lst1 (.exc c e st) = .exc c e st := rfl
@[simp] theorem pv_lstO : eLstO mr env st = lstO1 (mr env st) := by unfold eLstO lstO1; cases mr env st <;> rfl
@[simp] theorem lstO1_ok : lstO1 (.ok xs st) = if (sz xs.length && noLsts xs) = true then .ok (.obj st.length) (st ++ [.lst xs]) else .bad := rfl
@[simp] theorem pv_new : eNew mr env st = new1 (mr env st) := by unfold eNew new1; cases mr env st <;> rfl
@[simp] theorem new1_ok : new1 (.ok xs st) = .ok (.lst xs) st := rfl
@[simp] theorem new1_exc : new1 (.exc c e st) = .exc c e st := rfl
@[simp] theorem pv_nlst : nLst mr env st = nlst1 (mr env st) := by
  unfold nLst nlst1
  cases mr env st with
  | ok ds st1 => show (match (if sz ds.length = true then some ds else none) with | some es => R.ok es st1 | none => .bad) = _; by_cases q : sz ds.length = true <;> simp [q]
  | exc => rfl
  | bad => rfl
@[simp] theorem nlst1_ok : nlst1 (.ok xs st) = if sz xs.length = true then .ok xs st else .bad := rfl
@[simp] theorem nlst1_exc : nlst1 (.exc c e st) = .exc c e st := rfl
@[simp] theorem pv_var : eVar i env st = match env[i]? with
  | some (.val d) => .ok d st
  | _ => .bad := rfl
@[simp] theorem pv_own : eOwn i env st = match env[i]? with
  | some (.own ds) => .ok (.lst ds) st
  | _ => .bad := rfl
@[simp] theorem pv_and : eAnd ma mb env st = and1 mb env (ma env st) := by
  unfold eAnd and1; cases ma env st with
  | ok d st1 => cases d <;> rfl
  | _ => rfl
@[simp] theorem and1_t : and1 mb env (.ok (.bl true) st) = mb env st := rfl
@[simp] theorem and1_f : and1 mb env (.ok (.bl false) st) = .ok (.bl false) st := rfl
theorem and1_b : and1 mb env (.ok (.bl b) st) = if b = true then mb env st else .ok (.bl false) st := rfl
@[simp] theorem and1_exc : and1 mb env (.exc c e st) = .exc c e st := rfl
@[simp] theorem pv_or : eOr ma mb env st = or1 mb env (ma env st) := by
  unfold eOr or1; cases ma env st with
  | ok d st1 => cases d <;> rfl
  | _ => rfl
@[simp] theorem or1_t : or1 mb env (.ok (.bl true) st) = .ok (.bl true) st := rfl
@[simp] theorem or1_f : or1 mb env (.ok (.bl false) st) = mb env st := rfl
theorem or1_b : or1 mb env (.ok (.bl b) st) = if b = true then .ok (.bl true) st else mb env st := rfl
@[simp] theorem or1_exc : or1 mb env (.exc c e st) = .exc c e st := rfl
@[simp] theorem pv_not : eNot ma env st = not1 (ma env st) := by
  unfold eNot not1; cases ma env st with
  | ok d st1 => cases d <;> rfl
  | _ => rfl
@[simp] theorem not1_ok : not1 (.ok (.bl b) st) = .ok (.bl (!b)) st := rfl
@[simp] theorem not1_exc : not1 (.exc c e st) = .exc c e st := rfl
@[simp] theorem pv_if : eIf mc ma mb env st = if1 ma mb env (mc env st) := by
  unfold eIf if1; cases mc env st with
  | ok d st1 => cases d <;> rfl
  | _ => rfl
@[simp] theorem if1_t : if1 ma mb env (.ok (.bl true) st) = ma env st := rfl
@[simp] theorem if1_f : if1 ma mb env (.ok (.bl false) st) = mb env st := rfl
theorem if1_b : if1 ma mb env (.ok (.bl b) st) = if b = true then ma env st else mb env st := rfl
@[simp] theorem if1_exc : if1 ma mb env (.exc c e st) = .exc c e st := rfl
@[simp] theorem pv_chain : eChain f g ma mb mc env st = chain1 f g mb mc env (ma env st) := by
  unfold eChain chain1; cases ma env st with
  | ok x st1 =>
    show (mb env st1).bind _ = chain2 f g x mc env (mb env st1)
    cases mb env st1 with
    | ok y st2 =>
      show (f x y st2).bind _ = chain3 g y mc env (f x y st2)
      cases f x y st2 with
      | ok z st3 =>
        cases z with
        | bl b => show (if b = true then (mc env st3).bind _ else _) = (if b = true then bin2 g y (mc env st3) else _); cases b; rfl; (simp only [if_true]; cases mc env st3 <;> rfl)
        | _ => rfl
      | _ => rfl
    | _ => rfl
  | _ => rfl
@[simp] theorem chain1_ok : chain1 f g mb mc env (.ok x st) = chain2 f g x mc env (mb env st) := rfl
@[simp] theorem chain2_ok : chain2 f g x mc env (.ok y st) = chain3 g y mc env (f x y st) := rfl
@[simp] theorem chain3_t : chain3 g y mc env (.ok (.bl true) st) = bin2 g y (mc env st) := rfl
@[simp] theorem chain3_f : chain3 g y mc env (.ok (.bl false) st) = .ok (.bl false) st := rfl
theorem chain3_b : chain3 g y mc env (.ok (.bl b) st) = if b = true then bin2 g y (mc env st) else .ok (.bl false) st := rfl
@[simp] theorem pv_sl : eSl ma ml mh env st = sl1 ml mh env (ma env st) := by
  unfold eSl sl1; cases ma env st with
  | ok x st1 =>
    show (ml env st1).bind _ = sl2 x mh env (ml env st1)
    cases ml env st1 with
    | ok lo st2 =>
      show (mh env st2).bind _ = sl3 x lo (mh env st2)
      cases mh env st2 <;> rfl
    | _ => rfl
  | _ => rfl
@[simp] theorem sl1_ok : sl1 ml mh env (.ok x st) = sl2 x mh env (ml env st) := rfl
@[simp] theorem sl2_ok : sl2 x mh env (.ok lo st) = sl3 x lo (mh env st) := rfl
@[simp] theorem sl3_ok : sl3 x lo (.ok hi st) = fSl x lo hi st := rfl
@[simp] theorem pv_onone : oNone env st = .ok none st := rfl
@[simp] theorem pv_osome : oSome ma env st = osome1 (ma env st) := by
  unfold oSome osome1; cases ma env st with
  | ok d st1 => cases d <;> rfl
  | _ => rfl
@[simp] theorem osome1_ok {k : Int} : osome1 (.ok (.int k) st) = .ok (some k) st := rfl
@[simp] theorem pv_rev : eRevA ma env st = un1 revD (ma env st) := by unfold eRevA un1; cases ma env st <;> rfl
/-! statements -/
@[simp] theorem ps_next : mNext env st = .nx env st := rfl
@[simp] theorem ps_seq : mSeq m1 m2 env st = seq1 m2 (m1 env st) := by unfold mSeq seq1; cases m1 env st <;> rfl
@[simp] theorem seq1_nx : seq1 m2 (.nx env st) = m2 env st := rfl
@[simp] theorem seq1_rt : seq1 m2 (.rt d st) = .rt d st := rfl
@[simp] theorem seq1_bk : seq1 m2 (.bk env st) = .bk env st := rfl
@[simp] theorem seq1_ct : seq1 m2 (.ct env st) = .ct env st := rfl
@[simp] theorem seq1_exc : seq1 m2 (.exc c e env st) = .exc c e env st := rfl
@[simp] theorem ps_ret_ : mRet m env st = ret1 env (m env st) := by unfold mRet ret1; cases m env st <;> rfl
@[simp] theorem ret1_ok : ret1 env (.ok d st) = .rt d st := rfl
@[simp] theorem ret1_exc : ret1 env (.exc c e st) = .exc c e env st := rfl
@[simp] theorem ps_retN_ : mRetN env st = .rt .non st := rfl
@[simp] theorem ps_break_ : mBreak env st = .bk env st := rfl
@[simp] theorem ps_cont_ : mCont env st = .ct env st := rfl
@[simp] theorem ps_raise_ : mRaise c env st = .exc c [] env st := rfl
@[simp] theorem ps_if_ : mIf mc m1 m2 env st = sif1 m1 m2 env (mc env st) := by
  unfold mIf sif1; cases mc env st with
  | ok d st1 => cases d <;> rfl
  | _ => rfl
@[simp] theorem sif1_t : sif1 m1 m2 env (.ok (.bl true) st) = m1 env st := rfl
@[simp] theorem sif1_f : sif1 m1 m2 env (.ok (.bl false) st) = m2 env st := rfl
theorem sif1_b : sif1 m1 m2 env (.ok (.bl b) st) = if b = true then m1 env st else m2 env st := rfl
@[simp] theorem sif1_exc : sif1 m1 m2 env (.exc c e st) = .exc c e env st := rfl
@[simp] theorem ps_drop : mDrop m env st = drop1 env (m env st) := by unfold mDrop drop1; cases m env st <;> rfl
@[simp] theorem drop1_ok : drop1 env (.ok d st) = .nx env st := rfl
@[simp] theorem drop1_exc : drop1 env (.exc c e st) = .exc c e env st := rfl
@[simp] theorem ps_set_ : mSet i m env st = set1 i env (m env st) := by unfold mSet set1; cases m env st <;> rfl
@[simp] theorem set1_ok : set1 i env (.ok d st) = .nx (env.set i (.val d)) st := rfl
@[simp] theorem set1_exc : set1 i env (.exc c e st) = .exc c e env st := rfl
@[simp] theorem ps_setU : mSetU i m env st = setU1 i env (m env st) := by unfold mSetU setU1; cases m env st <;> rfl
@[simp] theorem setU1_ok : setU1 i env (.ok d st) = if noLst d = true then .nx (env.set i (.val d)) st else .bad := rfl
@[simp] theorem ps_own_ : mOwn i mr env st = own1 i env (mr env st) := by unfold mOwn own1; cases mr env st <;> rfl
@[simp] theorem own1_ok : own1 i env (.ok xs st) = .nx (env.set i (.own xs)) st := rfl
@[simp] theorem ps_set__ : mSet_ i mr env st = set_1 i env (mr env st) := by unfold mSet_ set_1; cases mr env st <;> rfl
@[simp] theorem set_1_ok : set_1 i env (.ok xs st) = .nx (env.set i (.val (.lst xs))) st := rfl
@[simp] theorem ps_setN : mSetN i mr env st = setN1 i env (mr env st) := by unfold mSetN setN1; cases mr env st <;> rfl
@[simp] theorem setN1_ok : setN1 i env (.ok xs st) = if noLsts xs = true then .nx (env.set i (.val (.lst xs))) st else .bad := rfl
@[simp] theorem ps_app_ : mApp i m env st = match env[i]? with
  | some (.own xs) => app1 i env xs (m env st)
  | _ => .bad := by
  unfold mApp
  cases env[i]? with
  | none => rfl
  | some sv => cases sv; rfl; rfl; rotate_left 1; rfl; (rename_i xs; show (m env st).stm env _ = app1 i env xs (m env st); cases m env st <;> rfl)
@[simp] theorem app1_ok : app1 i env xs (.ok d st) = if sz (xs.length + 1) = true then .nx (env.set i (.own (xs ++ [d]))) st else .bad := rfl
@[simp] theorem ps_put_ : mPut i mk m env st = match env[i]? with
  | some (.own xs) => put1 i mk env xs (m env st)
  | _ => .bad := by
  unfold mPut
  cases env[i]? with
  | none => rfl
  | some sv => cases sv; rfl; rfl; rotate_left 1; rfl; (rename_i xs; show (m env st).stm env _ = put1 i mk env xs (m env st); cases m env st; rotate_left 1; rfl; rfl; (rename_i d st1; show (mk env st1).stm env _ = put2 i env xs d (mk env st1); cases mk env st1; rotate_left 1; rfl; rfl; (rename_i k st2; cases k <;> rfl)))
@[simp] theorem put1_ok : put1 i mk env xs (.ok d st) = put2 i env xs d (mk env st) := rfl
@[simp] theorem put2_ok {k : Int} : put2 i env xs d (.ok (.int k) st) = (match ixN xs.length k with
    | some j => .nx (env.set i (.own (xs.set j d))) st
    | none => .bad) := rfl
@[simp] theorem ps_putU_ : mPutU i mk m env st = match env[i]? with
  | some (.own xs) => putU1 i mk env xs (m env st)
  | _ => .bad := by
  unfold mPutU
  cases env[i]? with
  | none => rfl
  | some sv =>
    cases sv; rfl; rfl; rotate_left 1; rfl
    rename_i xs
    show (m env st).stm env _ = putU1 i mk env xs (m env st)
    cases m env st; rotate_left 1; rfl; rfl
    rename_i d st1
    show (mk env st1).stm env _ = (if noLst d = true then put2 i env xs d (mk env st1) else _)
    by_cases q : noLst d = true
    · simp only [q, if_true]
      cases mk env st1; rotate_left 1; rfl; rfl
      rename_i k st2
      cases k <;> rfl
    · simp only [q, if_false]
      cases mk env st1; rotate_left 1; rfl; rfl
      rename_i k st2
      cases k <;> rfl
@[simp] theorem putU1_ok (hd : noLst d = true) : putU1 i mk env xs (.ok d st) = put2 i env xs d (mk env st) := by simp only [putU1, hd, if_true]
@[simp] theorem ps_cat_ : mOwnCat i m env st = match env[i]? with
  | some (.own xs) => cat1 i env xs (m env st)
  | _ => .bad := by
  unfold mOwnCat
  cases env[i]? with
  | none => rfl
  | some sv => cases sv; rfl; rfl; rotate_left 1; rfl; (rename_i xs; show (m env st).stm env _ = cat1 i env xs (m env st); cases m env st; rotate_left 1; rfl; rfl; (rename_i d st1; cases d <;> rfl))
@[simp] theorem cat1_ok {ys : List D} : cat1 i env xs (.ok (.lst ys) st) = if sz (xs.length + ys.length) = true then .nx (env.set i (.own (xs ++ ys))) st else .bad := rfl
@[simp] theorem ps_putO_ : mPutO mo mk m env st = putO1 mo mk env (m env st) := by
  unfold mPutO putO1
  cases m env st; rotate_left 1; rfl; rfl
  rename_i d st1
  show (mo env st1).stm env _ = putO2 mk env d (mo env st1)
  cases mo env st1; rotate_left 1; rfl; rfl
  rename_i x st2
  show (mk env st2).stm env _ = putO3 env d x (mk env st2)
  cases mk env st2; rotate_left 1; rfl; rfl
  rename_i k st3
  cases x <;> cases k <;> rfl
@[simp] theorem putO1_ok : putO1 mo mk env (.ok d st) = putO2 mk env d (mo env st) := rfl
@[simp] theorem putO2_ok : putO2 mk env d (.ok x st) = putO3 env d x (mk env st) := rfl
@[simp] theorem putO3_ok {k : Int} : putO3 env d (.obj n) (.ok (.int k) st) = storeAt n k d env st := rfl
@[simp] theorem ps_for_ : mFor mi t m1 env st = for1 t m1 env (mi env st) := by unfold mFor for1; cases mi env st <;> rfl
@[simp] theorem for1_ok : for1 t m1 env (.ok xs st) = forGo t m1 xs env st := rfl
@[simp] theorem ps_forOwn : mForOwn i t m1 env st = match env[i]? with
  | some (.own xs) => forGo t m1 xs (env.set i (.val (.lst xs))) st
  | _ => .bad := rfl
@[simp] theorem pv_seqI : itSeq ma env st = seqI1 (ma env st) := by unfold itSeq seqI1; cases ma env st <;> rfl
@[simp] theorem seqI1_ok : seqI1 (.ok d st) = seqD d st := rfl
@[simp] theorem pv_r1 : itR1 ma env st = r11 (ma env st) := by
  unfold itR1 r11; cases ma env st with
  | ok d st1 => cases d <;> rfl
  | _ => rfl
theorem r11_ok {k : Int} (hk : k.natAbs < 100000) : r11 (.ok (.int k) st) = .ok (rngD 0 k.toNat) st := by simp only [r11, decide_eq_true hk, if_true]
@[simp] theorem pf_fn {n N : Nat} {ds : List D} (hl : ds.length = n) : fnOfN n N m1 ds st = fn1 (m1 (startE N ds) st) := by
  unfold fnOfN; rw [if_pos hl]
  unfold fnOf fn1
  cases m1 (startE N ds) st <;> rfl
@[simp] theorem fn1_rt : fn1 (.rt d st) = .ok d st := rfl
@[simp] theorem fn1_nx : fn1 (.nx env st) = .ok .non st := rfl
@[simp] theorem fn1_exc : fn1 (.exc c e env st) = .exc c e st := rfl
@[simp] theorem pv_lc {ck : Bool} {mt me : ME} {vs : List Nat} : lcM ck mi t mt me vs env st = lc1 ck t mt me vs env (mi env st) := by unfold lcM lc1; cases mi env st <;> rfl
theorem lc1_ok {ck : Bool} {mt me : ME} {vs : List Nat} {es : List D} {st2 : Sto} (h1 : lcGo ck t mt me xs (wipeE env vs) st = .ok es st2) (h2 : sz es.length = true) : lc1 ck t mt me vs env (.ok xs st) = .ok es st2 := by
  unfold lc1; simp only [h1, h2, if_true]
end
@[simp] theorem fGt_i {i j : Int} {st : Sto} : fGt (.int i) (.int j) st = .ok (.bl (decide (j < i))) st := rfl
@[simp] theorem fLt_i {i j : Int} {st : Sto} : fLt (.int i) (.int j) st = .ok (.bl (decide (i < j))) st := rfl
@[simp] theorem fLe_i {i j : Int} {st : Sto} : fLe (.int i) (.int j) st = .ok (.bl (decide (i ≤ j))) st := rfl
@[simp] theorem fGe_i {i j : Int} {st : Sto} : fGe (.int i) (.int j) st = .ok (.bl (decide (j ≤ i))) st := rfl
@[simp] theorem fAdd_i {i j : Int} {st : Sto} : fAdd (.int i) (.int j) st = .ok (.int (i + j)) st := rfl
@[simp] theorem fSub_i {i j : Int} {st : Sto} : fSub (.int i) (.int j) st = .ok (.int (i - j)) st := rfl
@[simp] theorem fInt_i {i : Int} {st : Sto} : fInt (.int i) st = .ok (.int i) st := rfl
@[simp] theorem fNeg_i {i : Int} {st : Sto} : fNeg (.int i) st = .ok (.int (-i)) st := rfl
@[simp] theorem fEq_i {i j : Int} {st : Sto} : fEq (.int i) (.int j) st = .ok (.bl (decide (i = j))) st := rfl
@[simp] theorem fEq_s {i j : Str} {st : Sto} : fEq (.str i) (.str j) st = .ok (.bl (decide (i = j))) st := rfl
@[simp] theorem fEq_b {i j : Bool} {st : Sto} : fEq (.bl i) (.bl j) st = .ok (.bl (decide (i = j))) st := rfl
@[simp] theorem fEq_n {st : Sto} : fEq .non .non st = .ok (.bl true) st := rfl
@[simp] theorem fNe_i {i j : Int} {st : Sto} : fNe (.int i) (.int j) st = .ok (.bl (!decide (i = j))) st := rfl
@[simp] theorem fNe_s {i j : Str} {st : Sto} : fNe (.str i) (.str j) st = .ok (.bl (!decide (i = j))) st := rfl
@[simp] theorem fNe_b {i j : Bool} {st : Sto} : fNe (.bl i) (.bl j) st = .ok (.bl (!decide (i = j))) st := rfl
theorem fMul_i {i j : Int} {st : Sto} (h1 : bits i 4000 = true) (h2 : bits j 4000 = true) : fMul (.int i) (.int j) st = .ok (.int (i * j)) st := by simp [fMul, h1, h2]
theorem fDiv_i {i j : Int} {st : Sto} (h1 : 0 < j) (h2 : bits j 4000 = true) : fDiv (.int i) (.int j) st = .ok (.int (i / j)) st := by simp [fDiv, h1, h2]
theorem fMod_i {i j : Int} {st : Sto} (h1 : 0 < j) : fMod (.int i) (.int j) st = .ok (.int (i % j)) st := by simp [fMod, h1]
theorem fPow_i {i j : Int} {st : Sto} (h1 : 0 ≤ j) (h2 : j ≤ 100) (h3 : i.natAbs < 1000) : fPow (.int i) (.int j) st = .ok (.int (i ^ j.toNat)) st := by simp [fPow, h1, h2, h3]
@[simp] theorem fLen_t {ds : List D} {st : Sto} : fLen (.tup ds) st = .ok (.int ds.length) st := rfl
@[simp] theorem fLen_l {ds : List D} {st : Sto} : fLen (.lst ds) st = .ok (.int ds.length) st := rfl
theorem fIx_t {ds : List D} {i : Int} {d : D} {st : Sto} (h : L2.atI ds i = some d) : fIx (.tup ds) (.int i) st = .ok d st := by simp [fIx, h]
theorem fIx_l {ds : List D} {i : Int} {d : D} {st : Sto} (h : L2.atI ds i = some d) : fIx (.lst ds) (.int i) st = .ok d st := by simp [fIx, lsOf, h]
theorem fIx_o {n : Nat} {ds : List D} {i : Int} {d : D} {st : Sto} (h1 : st[n]? = some (.lst ds)) (h : L2.atI ds i = some d) : fIx (.obj n) (.int i) st = .ok d st := by simp [fIx, lsOf, h1, h]
theorem atI_nat {α : Type} {xs : List α} {i : Nat} {x : α} (h : xs[i]? = some x) : L2.atI xs (i : Int) = some x := by
  have hl := (List.getElem?_eq_some_iff.mp h).1
  unfold L2.atI
  have e : L2.ixN xs.length (i : Int) = some i := by unfold L2.ixN; simp [hl]
  rw [e]; exact h
theorem ixN_nat {n i : Nat} (h : i < n) : L2.ixN n (i : Int) = some i := by unfold L2.ixN; simp [h]
@[simp] theorem sz_lit {n : Nat} (h : n ≤ 100000) : sz n = true := decide_eq_true h
theorem bits_of {i : Int} {n : Nat} (h : i.natAbs < 2 ^ n) : bits i n = true := decide_eq_true h

/-! ## the store of a law -/
/-- one object alone changed, others perhaps new -/
structure Fr (j : Nat) (st st' : Sto) : Prop where
  len : st.length ≤ st'.length
  get : ∀ i, i ≠ j → i < st.length → st'[i]? = st[i]?
theorem Fr.refl {j : Nat} {st : Sto} : Fr j st st := ⟨Nat.le_refl _, fun _ _ _ => rfl⟩
theorem Fr.trans {j : Nat} {a b c : Sto} (x : Fr j a b) (y : Fr j b c) : Fr j a c := ⟨Nat.le_trans x.len y.len, fun i h l => (y.get i h (Nat.lt_of_lt_of_le l x.len)).trans (x.get i h l)⟩
theorem Fr.set {j : Nat} {st : Sto} {mo : MO} : Fr j st (st.set j mo) := ⟨by simp, fun i h _ => List.getElem?_set_ne (fun e => h e.symm)⟩
/-- the bag of draws at j, n draws left -/
def Jar (j n : Nat) (st : Sto) : Prop := ∃ a s c : Int, st[j]? = some (.lst [.int a, .int s, .int c]) ∧ 0 ≤ s ∧ s < 10 ^ 30 ∧ 0 ≤ c ∧ c + n ≤ 10 ^ 12
theorem Jar.mono {j m n : Nat} {st : Sto} (h : Jar j n st) (l : m ≤ n) : Jar j m st := by
  obtain ⟨a, s, c, h1, h2, h3, h4, h5⟩ := h
  exact ⟨a, s, c, h1, h2, h3, h4, by omega⟩
theorem Jar.lt {j n : Nat} {st : Sto} (h : Jar j n st) : j < st.length := by
  obtain ⟨a, s, c, h1, _⟩ := h
  exact (List.getElem?_eq_some_iff.mp h1).1
end Fx
namespace Fx
theorem mul_bd {a b A B : Int} (h1 : 0 ≤ a) (h2 : a ≤ A) (h3 : 0 ≤ b) (h4 : b ≤ B) : 0 ≤ a * b ∧ a * b ≤ A * B := ⟨Int.mul_nonneg h1 h3, Int.mul_le_mul h2 h4 h3 (Int.le_trans h1 h2)⟩
theorem bits_bd {a : Int} (h1 : 0 ≤ a) (h2 : a ≤ 10 ^ 1000) : bits a 4000 = true := by
  refine bits_of ?_
  have h3 : (10 : Int) ^ 1000 < ((2 ^ 4000 : Nat) : Int) := by decide +kernel
  generalize ((2 : Nat) ^ 4000) = X at h3 ⊢
  generalize ((10 : Int) ^ 1000) = Y at h2 h3
  omega
theorem bits_ab {a : Int} (h2 : a.natAbs ≤ 10 ^ 1000) : bits a 4000 = true := by
  refine bits_of ?_
  have h3 : (10 : Nat) ^ 1000 < 2 ^ 4000 := by decide +kernel
  exact Nat.lt_of_le_of_lt h2 h3
end Fx
namespace Fx
open PySem PySem.Spec PyProof.Rows
/-! ## comprehensions and loops without effects -/
theorem lc_pf {i : Nat} {mt me : ME} {p : D → Bool} {f : D → D} {env : SEnv} {st : Sto} : ∀ {ds : List D}, (∀ x ∈ ds, mt (env.set i (.val x)) st = .ok (.bl (p x)) st) → (∀ x ∈ ds, p x = true → me (env.set i (.val x)) st = .ok (f x) st) →
    lcGo false (.nm i) mt me ds env st = .ok ((ds.filter p).map f) st
  | [], _, _ => rfl
  | x :: xs, h1, h2 => by
    have ih := lc_pf (ds := xs) (fun y hy => h1 y (List.mem_cons_of_mem _ hy)) fun y hy => h2 y (List.mem_cons_of_mem _ hy)
    have e1 := h1 x (List.mem_cons_self ..)
    simp only [lcGo, Bool.false_and, Bool.false_eq_true, if_false, tgF, e1, bind_ok_]
    by_cases q : p x = true
    · have e2 := h2 x (List.mem_cons_self ..) q
      simp only [q, if_true, e2, bind_ok_, ih, List.filter_cons_of_pos q, List.map_cons]
    · simp only [q, if_false, ih, List.filter_cons_of_neg q, Bool.false_eq_true]
where bind_ok_ {a b : Type} (x : a) (st : Sto) (k : a → Sto → R b) : (R.ok x st).bind k = k x st := rfl
theorem lc1_pf {i : Nat} {mt me : ME} {p : D → Bool} {f : D → D} {vs : List Nat} {env : SEnv} {st : Sto} {ds : List D} (hz : ds.length ≤ 100000) (h1 : ∀ x ∈ ds, mt ((wipeE env vs).set i (.val x)) st = .ok (.bl (p x)) st) (h2 : ∀ x ∈ ds, p x = true → me ((wipeE env vs).set i (.val x)) st = .ok (f x) st) :
    lc1 false (.nm i) mt me vs env (.ok ds st) = .ok ((ds.filter p).map f) st := lc1_ok (lc_pf h1 h2) (sz_lit (by rw [List.length_map]; exact Nat.le_trans (List.length_filter_le _ _) hz))
theorem lc1_p {i : Nat} {me : ME} {f : D → D} {vs : List Nat} {env : SEnv} {st : Sto} {ds : List D} (hz : ds.length ≤ 100000) (h2 : ∀ x ∈ ds, me ((wipeE env vs).set i (.val x)) st = .ok (f x) st) :
    lc1 false (.nm i) (eC (.bl true)) me vs env (.ok ds st) = .ok (ds.map f) st := by
  have h := lc1_pf (p := fun _ => true) (f := f) (vs := vs) (env := env) (st := st) (i := i) (mt := eC (.bl true)) (me := me) hz (fun _ _ => rfl) fun x hx _ => h2 x hx
  rw [List.filter_eq_self.mpr (fun _ _ => rfl)] at h
  exact h
theorem blsD_map {b : D → Bool} : ∀ (ds : List D), blsD (ds.map fun x => .bl (b x)) = some (ds.map b)
  | [] => rfl
  | d :: ds => by simp only [List.map_cons, blsD, blsD_map ds]; rfl
theorem fAll_map {b : D → Bool} {ds : List D} {st : Sto} : fAll (.lst (ds.map fun x => .bl (b x))) st = .ok (.bl (ds.all b)) st := by
  simp [fAll, lsOf, blsD_map, List.all_map, Function.comp_def]
theorem fAny_map {b : D → Bool} {ds : List D} {st : Sto} : fAny (.lst (ds.map fun x => .bl (b x))) st = .ok (.bl (ds.any b)) st := by
  simp [fAny, lsOf, blsD_map, List.any_map, Function.comp_def]
theorem wipe1 {env : SEnv} {i : Nat} {x : SV} : (wipeE env [i]).set i x = env.set i x := by simp [wipeE]

/-! ## accounts -/
inductive Ent where
  | str | bill (d s : Int) | pay (d s : Int) | nam (d s k : Int)
deriving DecidableEq
def Ent.D : Ent → D
  | .str => .tup [.str "struck"]
  | .bill d s => .tup [.str "bill", .int d, .int s]
  | .pay d s => .tup [.str "pay", .int d, .int s]
  | .nam d s k => .tup [.str "named", .int d, .int s, .int k]
def accD (es : List Ent) : D := .tup (es.map Ent.D)
def Ent.s1 : Ent → Prop
  | .str => True
  | .bill _ s => 1 ≤ s
  | .pay _ s => 1 ≤ s
  | .nam _ s _ => 1 ≤ s
def Ent.nm (es : List Ent) : Ent → Prop
  | .nam d _ k => 0 ≤ k ∧ ∃ d' s', es[k.toNat]? = some (.bill d' s') ∧ d' ≤ d
  | _ => True
structure Valid (es : List Ent) : Prop where
  s1 : ∀ e ∈ es, e.s1
  nm : ∀ e ∈ es, e.nm es
theorem w_bp : (("bill" : Str) = "pay") = False := eq_false (by decide)
theorem w_bn : (("bill" : Str) = "named") = False := eq_false (by decide)
theorem w_bs : (("bill" : Str) = "struck") = False := eq_false (by decide)
theorem w_pb : (("pay" : Str) = "bill") = False := eq_false (by decide)
theorem w_pn : (("pay" : Str) = "named") = False := eq_false (by decide)
theorem w_ps : (("pay" : Str) = "struck") = False := eq_false (by decide)
theorem w_nb : (("named" : Str) = "bill") = False := eq_false (by decide)
theorem w_np : (("named" : Str) = "pay") = False := eq_false (by decide)
theorem w_ns : (("named" : Str) = "struck") = False := eq_false (by decide)
theorem w_sb : (("struck" : Str) = "bill") = False := eq_false (by decide)
theorem w_sp : (("struck" : Str) = "pay") = False := eq_false (by decide)
theorem w_sn : (("struck" : Str) = "named") = False := eq_false (by decide)
/-- x in words, all texts -/
theorem inD_str {neg : Bool} {x : Str} {ws : List Str} {st : Sto} : inD neg (.str x) (.tup (ws.map D.str)) st = .ok (.bl (if neg then !(ws.any fun y => decide (y = x)) else ws.any fun y => decide (y = x))) st := by
  have h : ∀ ws : List Str, flsD (ws.map D.str) = some (ws.map L2.V.str) := fun ws => by
    induction ws with
    | nil => rfl
    | cons w ws ih => simp only [List.map_cons, flsD, flD, ih]
  have e : L2.inV (.str x) (ws.map L2.V.str) = ws.any fun y => decide (y = x) := by
    unfold L2.inV
    rw [List.any_map]
    congr 1
  simp only [inD, flD, h, e]
end Fx
namespace Fx
open PySem PySem.Spec PyProof.Rows
/-- a loop, by an invariant; it may break (B) or return (T) -/
theorem forGo_gen {t : Tg} {mb : MS} (I : Nat → SEnv → Sto → Prop) (B : SEnv → Sto → Prop) (T : D → Sto → Prop) : ∀ (ds : List D) (k : Nat) (env : SEnv) (st : Sto), I k env st →
    (∀ i x env st, ds[i]? = some x → I (k + i) env st → ∃ env1, tgF t x env = some env1 ∧ ((∃ env2 st2, (mb env1 st = .nx env2 st2 ∨ mb env1 st = .ct env2 st2) ∧ I (k + i + 1) env2 st2) ∨ (∃ env2 st2, mb env1 st = .bk env2 st2 ∧ B env2 st2) ∨ ∃ d st2, mb env1 st = .rt d st2 ∧ T d st2)) →
    (∃ e s, forGo t mb ds env st = .nx e s ∧ (I (k + ds.length) e s ∨ B e s)) ∨ ∃ d s, forGo t mb ds env st = .rt d s ∧ T d s
  | [], k, env, st, h0, hs => .inl ⟨env, st, rfl, .inl h0⟩
  | x :: xs, k, env, st, h0, hs => by
    obtain ⟨env1, e1, h⟩ := hs 0 x env st rfl h0
    have rest : ∀ env2 st2, I (k + 0 + 1) env2 st2 → (∃ e s, forGo t mb xs env2 st2 = .nx e s ∧ (I (k + (x :: xs).length) e s ∨ B e s)) ∨ ∃ d s, forGo t mb xs env2 st2 = .rt d s ∧ T d s := fun env2 st2 h2 => by
      have z := forGo_gen I B T xs (k + 1) env2 st2 h2 fun i y env st hy hi => by
        have := hs (i + 1) y env st (by simpa using hy) (by rw [show k + (i + 1) = k + 1 + i by omega]; exact hi)
        rw [show k + (i + 1) + 1 = k + 1 + i + 1 by omega] at this
        exact this
      rw [show k + (x :: xs).length = k + 1 + xs.length by rw [List.length_cons]; omega]
      exact z
    rcases h with ⟨env2, st2, h1, h2⟩ | ⟨env2, st2, h1, h2⟩ | ⟨d, st2, h1, h2⟩
    · have e : forGo t mb (x :: xs) env st = forGo t mb xs env2 st2 := by
        rcases h1 with h1 | h1 <;> simp only [forGo, e1, h1]
      rw [e]
      exact rest env2 st2 h2
    · exact .inl ⟨env2, st2, by simp only [forGo, e1, h1], .inr h2⟩
    · exact .inr ⟨d, st2, by simp only [forGo, e1, h1], h2⟩
/-- .. that goes to its end -/
theorem forGo_inv {t : Tg} {mb : MS} (I : Nat → SEnv → Sto → Prop) (ds : List D) (env : SEnv) (st : Sto) (h0 : I 0 env st)
    (hs : ∀ i x env st, ds[i]? = some x → I i env st → ∃ env1, tgF t x env = some env1 ∧ ∃ env2 st2, (mb env1 st = .nx env2 st2 ∨ mb env1 st = .ct env2 st2) ∧ I (i + 1) env2 st2) :
    ∃ e s, forGo t mb ds env st = .nx e s ∧ I ds.length e s := by
  rcases forGo_gen I (fun _ _ => False) (fun _ _ => False) ds 0 env st h0 (fun i x env st hx hi => by
    rw [Nat.zero_add] at hi ⊢
    obtain ⟨env1, e1, h⟩ := hs i x env st hx hi
    exact ⟨env1, e1, .inl h⟩) with ⟨e, s, h1, h2⟩ | ⟨_, _, _, h⟩
  · rcases h2 with h2 | h2
    · exact ⟨e, s, h1, by rw [Nat.zero_add] at h2; exact h2⟩
    · exact h2.elim
  · exact h.elim
theorem rngD_get {n i : Nat} {x : D} (h : (rngD 0 n)[i]? = some x) : i < n ∧ x = .int i := by
  unfold rngD at h
  rw [List.getElem?_map] at h
  by_cases hi : i < n
  · rw [List.getElem?_range hi] at h
    simp at h
    exact ⟨hi, h.symm⟩
  · rw [List.getElem?_eq_none (by simpa using hi)] at h
    cases h
@[simp] theorem rngD_len {lo : Int} {n : Nat} : (rngD lo n).length = n := by simp [rngD]
/-- an entry as drawn: no name -/
def Ent.draw (far top : Int) : Ent → Prop
  | .str => True
  | .bill d s => -far ≤ d ∧ d ≤ far ∧ 1 ≤ s ∧ s ≤ top
  | .pay d s => -far ≤ d ∧ d ≤ far ∧ 1 ≤ s ∧ s ≤ top
  | .nam d s k => False
end Fx
namespace Fx
open PySem PySem.Spec PyProof.Rows
/-! ## data that == reads -/
mutual
def okD : D → Nat → Bool
  | .non, _ => true
  | .bl _, _ => true
  | .int _, _ => true
  | .str x, _ => PyData.strOk x
  | .tup ds, n + 1 => okDs ds n
  | .lst ds, n + 1 => okDs ds n
  | _, _ => false
def okDs : List D → Nat → Bool
  | [], _ => true
  | d :: ds, n => okD d n && okDs ds n
end
mutual
theorem okD_lay : ∀ {d : D} {n : Nat}, okD d n = true → (toP d).canLay0 = true ∧ (toP d).depth ≤ n
  | .non, n, _ => ⟨rfl, Nat.zero_le _⟩
  | .bl _, n, _ => ⟨rfl, Nat.zero_le _⟩
  | .int _, n, _ => ⟨rfl, Nat.zero_le _⟩
  | .str x, n, h => ⟨by simpa [toP, PyData.canLay0, okD] using h, by simp [toP, PyData.depth]⟩
  | .tup ds, 0, h => by simp [okD] at h
  | .lst ds, 0, h => by simp [okD] at h
  | .tup ds, n + 1, h => by
    simp only [okD] at h
    obtain ⟨h1, h2⟩ := okDs_lay h
    exact ⟨by simpa [toP, PyData.canLay0] using h1, by simp [toP, PyData.depth]; exact h2⟩
  | .lst ds, n + 1, h => by
    simp only [okD] at h
    obtain ⟨h1, h2⟩ := okDs_lay h
    exact ⟨by simpa [toP, PyData.canLay0] using h1, by simp [toP, PyData.depth]; exact h2⟩
  | .dK _ _, n, h => by simp [okD] at h
  | .dT _ _, n, h => by simp [okD] at h
  | .obj _, n, h => by simp [okD] at h
  | .err _, n, h => by simp [okD] at h
  | .scr _, n, h => by simp [okD] at h
theorem okDs_lay : ∀ {ds : List D} {n : Nat}, okDs ds n = true → PyData.canLayAll0 (toPs ds) = true ∧ PyData.depthAll (toPs ds) ≤ n
  | [], n, _ => ⟨rfl, Nat.zero_le _⟩
  | d :: ds, n, h => by
    simp only [okDs, Bool.and_eq_true] at h
    obtain ⟨h1, h2⟩ := okD_lay h.1
    obtain ⟨h3, h4⟩ := okDs_lay h.2
    refine ⟨by simp [toPs, PyData.canLayAll0, h1, h3], ?_⟩
    simp only [toPs, PyData.depthAll]
    exact Nat.max_le.mpr ⟨h2, h4⟩
end
theorem shp_of {d : D} {n : Nat} (h : okD d n = true) (hn : n ≤ 64) : shp d = true := by
  obtain ⟨h1, h2⟩ := okD_lay h
  unfold shp SeqAt.shaped
  simp only [h1, Bool.true_and, decide_eq_true_eq]
  omega
theorem okDs_all : ∀ {ds : List D} {n : Nat}, (∀ d ∈ ds, okD d n = true) → okDs ds n = true
  | [], _, _ => rfl
  | d :: ds, n, h => by
    simp only [okDs, Bool.and_eq_true]
    exact ⟨h d (List.mem_cons_self ..), okDs_all fun e he => h e (List.mem_cons_of_mem _ he)⟩
theorem fNe_lnil {xs : List D} {st : Sto} (h : okDs xs 60 = true) : fNe (.lst xs) (.lst []) st = .ok (.bl (!xs.isEmpty)) st := by
  have s1 : shp (.lst xs) = true := shp_of (n := 61) h (by decide)
  have s2 : shp (.lst []) = true := by decide
  have e : deq (.lst xs) (.lst []) = xs.isEmpty := by
    cases xs with
    | nil => rfl
    | cons x xs => simp [deq, toP, toPs, PyData.eqv, PyData.eqvAll]
  simp [fNe, eqD, s1, s2, e]
theorem fNe_tnil {xs : List D} {st : Sto} (h : okDs xs 60 = true) : fNe (.tup xs) (.tup []) st = .ok (.bl (!xs.isEmpty)) st := by
  have s1 : shp (.tup xs) = true := shp_of (n := 61) h (by decide)
  have s2 : shp (.tup []) = true := by decide
  have e : deq (.tup xs) (.tup []) = xs.isEmpty := by
    cases xs with
    | nil => rfl
    | cons x xs => simp [deq, toP, toPs, PyData.eqv, PyData.eqvAll]
  simp [fNe, eqD, s1, s2, e]
/-! ## entries with bounds -/
def Ent.bd (far top : Int) : Ent → Prop
  | .str => True
  | .bill d s => -far ≤ d ∧ d ≤ far ∧ 1 ≤ s ∧ s ≤ top
  | .pay d s => -far ≤ d ∧ d ≤ far ∧ 1 ≤ s ∧ s ≤ top
  | .nam d s _ => -far ≤ d ∧ d ≤ far ∧ 1 ≤ s ∧ s ≤ top
structure Acc (far top : Int) (es : List Ent) : Prop where
  bd : ∀ e ∈ es, e.bd far top
  nm : ∀ e ∈ es, e.nm es
theorem Acc.valid {far top : Int} {es : List Ent} (h : Acc far top es) : Valid es := ⟨fun e he => by
  have := h.bd e he
  cases e <;> simp only [Ent.bd, Ent.s1] at this ⊢ <;> omega, h.nm⟩
theorem Acc.of_draw {far top : Int} {es : List Ent} (h : ∀ e ∈ es, e.draw far top) : Acc far top es := ⟨fun e he => by
  have := h e he
  cases e <;> simp only [Ent.bd, Ent.draw] at this ⊢ <;> first | trivial | exact this | exact this.elim, fun e he => by
  have := h e he
  cases e <;> simp only [Ent.nm, Ent.draw] at this ⊢⟩
/-- the payment at i names the bill at k -/
theorem Acc.name {far top : Int} {es : List Ent} {i k : Nat} {d s d' s' : Int} (h : Acc far top es) (h1 : es[i]? = some (.pay d s)) (h2 : es[k]? = some (.bill d' s')) (h3 : d' ≤ d) : Acc far top (es.set i (.nam d s k)) := by
  have hi := (List.getElem?_eq_some_iff.mp h1).1
  have b1 := h.bd _ (List.mem_of_getElem? h1)
  have keep : ∀ {n : Nat} {a b : Int}, es[n]? = some (.bill a b) → (es.set i (.nam d s k))[n]? = some (.bill a b) := fun {n a b} e => by
    have : n ≠ i := fun z => by subst z; rw [h1] at e; cases e
    rw [List.getElem?_set_ne (fun z => this z.symm)]; exact e
  have nmk : ∀ e : Ent, e.nm es → e.nm (es.set i (.nam d s k)) := fun e he => by
    cases e with
    | nam a b c => obtain ⟨z0, a', b', z1, z2⟩ := he; exact ⟨z0, a', b', keep z1, z2⟩
    | _ => trivial
  refine ⟨fun e he => ?_, fun e he => ?_⟩
  · rcases List.mem_or_eq_of_mem_set he with z | z
    · exact h.bd e z
    · subst z; exact b1
  · rcases List.mem_or_eq_of_mem_set he with z | z
    · exact nmk e (h.nm e z)
    · subst z; exact ⟨by omega, d', s', keep (by simpa using h2), h3⟩
/-- a comprehension that reads own lists -/
theorem lc_pfU {i : Nat} {mt me : ME} {p : D → Bool} {f : D → D} {env : SEnv} {st : Sto} : ∀ {ds : List D}, (∀ x ∈ ds, noLst x = true) → (∀ x ∈ ds, mt (env.set i (.val x)) st = .ok (.bl (p x)) st) → (∀ x ∈ ds, p x = true → me (env.set i (.val x)) st = .ok (f x) st) →
    lcGo true (.nm i) mt me ds env st = .ok ((ds.filter p).map f) st
  | [], _, _, _ => rfl
  | x :: xs, h0, h1, h2 => by
    have ih := lc_pfU (ds := xs) (fun y hy => h0 y (List.mem_cons_of_mem _ hy)) (fun y hy => h1 y (List.mem_cons_of_mem _ hy)) fun y hy => h2 y (List.mem_cons_of_mem _ hy)
    have e0 := h0 x (List.mem_cons_self ..)
    have e1 := h1 x (List.mem_cons_self ..)
    simp only [lcGo, Bool.true_and, e0, Bool.not_true, Bool.false_eq_true, if_false, tgF, e1, lc_pf.bind_ok_]
    by_cases q : p x = true
    · have e2 := h2 x (List.mem_cons_self ..) q
      simp only [q, if_true, e2, lc_pf.bind_ok_, ih, List.filter_cons_of_pos q, List.map_cons]
    · simp only [q, if_false, ih, List.filter_cons_of_neg q, Bool.false_eq_true]
theorem lc1_pfU {i : Nat} {mt me : ME} {p : D → Bool} {f : D → D} {vs : List Nat} {env : SEnv} {st : Sto} {ds : List D} (hz : ds.length ≤ 100000) (h0 : ∀ x ∈ ds, noLst x = true) (h1 : ∀ x ∈ ds, mt ((wipeE env vs).set i (.val x)) st = .ok (.bl (p x)) st) (h2 : ∀ x ∈ ds, p x = true → me ((wipeE env vs).set i (.val x)) st = .ok (f x) st) :
    lc1 true (.nm i) mt me vs env (.ok ds st) = .ok ((ds.filter p).map f) st := lc1_ok (lc_pfU h0 h1 h2) (sz_lit (by rw [List.length_map]; exact Nat.le_trans (List.length_filter_le _ _) hz))
@[simp] theorem set_1N {i : Nat} {env : SEnv} {xs : List D} {st : Sto} (h : noLsts xs = true) : setN1 i env (.ok xs st) = .nx (env.set i (.val (.lst xs))) st := by rw [setN1_ok, if_pos h]
theorem noLsts_of : ∀ {ds : List D}, (∀ d ∈ ds, noLst d = true) → noLsts ds = true
  | [], _ => rfl
  | d :: ds, h => by
    simp only [noLsts, Bool.and_eq_true]
    exact ⟨h d (List.mem_cons_self ..), noLsts_of fun e he => h e (List.mem_cons_of_mem _ he)⟩
theorem rngD_mem {n : Nat} {x : D} (h : x ∈ rngD 0 n) : ∃ i, i < n ∧ x = .int (i : Nat) := by
  obtain ⟨i, hi⟩ := List.getElem?_of_mem h
  obtain ⟨h1, h2⟩ := rngD_get hi
  exact ⟨i, h1, h2⟩
end Fx
namespace Fx
open PySem PySem.Spec PyProof.Rows
def nof1 : R D → R (List D)
  | .ok (.tup ds) st => .ok ds st
  | .ok d st => (match lsOf st d with
    | some ds => .ok ds st
    | none => .bad)
  | .exc c e st => .exc c e st
  | .bad => .bad
@[simp] theorem pv_nOf {m : ME} {env : SEnv} {st : Sto} : nOf m env st = nof1 (m env st) := by
  unfold nOf nof1; cases m env st with
  | ok d st1 => cases d <;> rfl
  | _ => rfl
@[simp] theorem nof1_t {ds : List D} {st : Sto} : nof1 (.ok (.tup ds) st) = .ok ds st := rfl
@[simp] theorem nof1_l {ds : List D} {st : Sto} : nof1 (.ok (.lst ds) st) = .ok ds st := rfl
def ncat2 (x : D) : R D → R (List D)
  | .ok y st => (match x, y with
    | .lst xs, .lst ys => if sz (xs.length + ys.length) = true then .ok (xs ++ ys) st else .bad
    | _, _ => .bad)
  | .exc c e st => .exc c e st
  | .bad => .bad
def ncat1 (m2 : ME) (env : SEnv) : R D → R (List D)
  | .ok x st => ncat2 x (m2 env st)
  | .exc c e st => .exc c e st
  | .bad => .bad
@[simp] theorem pv_nCat {m m2 : ME} {env : SEnv} {st : Sto} : nCat m m2 env st = ncat1 m2 env (m env st) := by
  unfold nCat ncat1
  cases m env st; rotate_left 1; rfl; rfl
  rename_i x st1
  show (m2 env st1).bind _ = ncat2 x (m2 env st1)
  cases m2 env st1; rotate_left 1; rfl; rfl
  rename_i y st2
  cases x <;> cases y <;> rfl
@[simp] theorem ncat1_ok {m2 : ME} {env : SEnv} {x : D} {st : Sto} : ncat1 m2 env (.ok x st) = ncat2 x (m2 env st) := rfl
@[simp] theorem ncat2_ok {xs ys : List D} {st : Sto} : ncat2 (.lst xs) (.ok (.lst ys) st) = if sz (xs.length + ys.length) = true then .ok (xs ++ ys) st else .bad := rfl
end Fx
namespace Fx
open PySem PySem.Spec PyProof.Rows
/-! ## instances -/
theorem pf_fnS {n N : Nat} {m1 : MS} {ds : List D} {st : Sto} (h1 : n ≤ ds.length) (h2 : ds.length - n ≤ 100000) : fnOfS n N m1 ds st = fn1 (m1 (startE N (ds.take n ++ [.tup (ds.drop n)])) st) := by
  unfold fnOfS
  have : (decide (n ≤ ds.length) && sz (ds.length - n)) = true := by simp [h1, h2]
  rw [if_pos this]
  unfold fnOf fn1
  cases m1 (startE N (ds.take n ++ [.tup (ds.drop n)])) st <;> rfl
/-- a field put -/
def fldAt (fl : Nat → Bool) (f : Str) (d x : D) (env : SEnv) (st2 : Sto) : RS := match insOf x st2 with
  | some (n, c, fs) => if (fl c && (noLst d && decide (fs.length < 1000))) = true then .nx env (st2.set n (.ins c (putFD f d fs))) else .bad
  | none => .bad
def fld2 (fl : Nat → Bool) (f : Str) (env : SEnv) (d : D) : R D → RS
  | .ok x st => fldAt fl f d x env st
  | .exc c e st => .exc c e env st
  | .bad => .bad
def fld1 (fl : Nat → Bool) (f : Str) (mo : ME) (env : SEnv) : R D → RS
  | .ok d st => fld2 fl f env d (mo env st)
  | .exc c e st => .exc c e env st
  | .bad => .bad
@[simp] theorem ps_fld_ {fl : Nat → Bool} {f : Str} {mo me : ME} {env : SEnv} {st : Sto} : mFld fl f mo me env st = fld1 fl f mo env (me env st) := by
  unfold mFld fld1
  cases me env st; rotate_left 1; rfl; rfl
  rename_i d st1
  show (mo env st1).stm env _ = fld2 fl f env d (mo env st1)
  cases mo env st1 <;> rfl
@[simp] theorem fld1_ok {fl : Nat → Bool} {f : Str} {mo : ME} {env : SEnv} {d : D} {st : Sto} : fld1 fl f mo env (.ok d st) = fld2 fl f env d (mo env st) := rfl
@[simp] theorem fld2_ok {fl : Nat → Bool} {f : Str} {env : SEnv} {d x : D} {st : Sto} : fld2 fl f env d (.ok x st) = fldAt fl f d x env st := rfl
theorem make_ok {c : Nat} {sem : FS} {xs : List D} {st st2 : Sto} (h : sem (.obj st.length :: xs) (st ++ [.ins c []]) = .ok .non st2) : fMake c sem xs st = .ok (.obj st.length) st2 := by simp only [fMake, h]
theorem insOf_ok {n c : Nat} {fs : List (Str × D)} {st : Sto} (h : st[n]? = some (.ins c fs)) : insOf (.obj n) st = some (n, c, fs) := by simp only [insOf, h]
theorem fFld_ok {fl : Nat → Bool} {f : Str} {n c : Nat} {fs : List (Str × D)} {d : D} {st : Sto} (h : st[n]? = some (.ins c fs)) (h1 : fl c = true) (h2 : fs.lookup f = some d) : fFld fl f (.obj n) st = .ok d st := by
  simp only [fFld, insOf_ok h, h1, h2, if_true]
def star1 : R D → R (List D)
  | .ok (.tup ds) st => .ok ds st
  | .ok d st => (match lsOf st d with
    | some ds => .ok ds st
    | none => .bad)
  | .exc c e st => .exc c e st
  | .bad => .bad
@[simp] theorem pv_star {m : ME} {env : SEnv} {st : Sto} : aStar m env st = star1 (m env st) := by
  unfold aStar star1; cases m env st with
  | ok d st1 => cases d <;> rfl
  | _ => rfl
@[simp] theorem star1_t {ds : List D} {st : Sto} : star1 (.ok (.tup ds) st) = .ok ds st := rfl
@[simp] theorem pv_err {x : Str} {env : SEnv} {st : Sto} : eErr x env st = .ok (.err x) st := rfl

/-! ## kinds of values -/
def kind : D → String
  | .non => "NoneType" | .bl _ => "bool" | .int _ => "int" | .str _ => "str" | .tup _ => "tuple" | .lst _ => "list" | _ => "?"
/-- the same kind and the same value, of scalars -/
def scS : D → D → Bool
  | .int i, .int j => decide (i = j)
  | .str i, .str j => decide (i = j)
  | .bl i, .bl j => decide (i = j)
  | .non, .non => true
  | _, _ => false
def isSc : D → Bool
  | .int _ => true
  | .str x => PyData.strOk x
  | _ => false
def rowS (thing : D) (row : List D) : Bool := match thing with
  | .tup ds => decide (ds.length = row.length) && (ds.zip row).all fun p => scS p.1 p.2
  | _ => false
end Fx
namespace Fx
open PySem PySem.Spec PyProof.Rows
theorem strOk_of (s : String) : PyData.strOk (Str.ofString s) = true := by
  rw [ofString_eq_toList]
  unfold PyData.strOk
  simp only [List.all_toArray, List.all_map, List.all_eq_true]
  intro c _
  have h := c.valid
  simp only [Function.comp, decide_eq_true_eq]
  show c.val.toNat < 0x110000
  rcases h with h | ⟨_, h⟩
  · omega
  · exact h
where ofString_eq_toList (s : String) : Str.ofString s = ⟨(s.toList.map Char.toNat).toArray⟩ := PySem.Str.ofString_eq_toList s
/-! ## slices -/
theorem cutD_mem {xs : List D} {lo hi : Option Int} {x : D} (h : x ∈ cutD xs lo hi) : x ∈ xs := List.mem_of_mem_drop (List.mem_of_mem_take h)
theorem cutD_len (xs : List D) (lo hi : Option Int) : (cutD xs lo hi).length ≤ xs.length := by
  unfold cutD
  rw [List.length_take, List.length_drop]
  omega
@[simp] theorem fSl_t {xs : List D} {lo hi : Option Int} {st : Sto} : fSl (.tup xs) lo hi st = .ok (.tup (cutD xs lo hi)) st := rfl
@[simp] theorem fSl_l {xs : List D} {lo hi : Option Int} {st : Sto} : fSl (.lst xs) lo hi st = .ok (.lst (cutD xs lo hi)) st := rfl
@[simp] theorem fSl_s {ns : List Int} {lo hi : Option Int} {st : Sto} : fSl (.scr ns) lo hi st = .ok (.lst (cutD (ns.map D.int) lo hi)) st := rfl
theorem cut_from1 (x : D) (xs : List D) : cutD (x :: xs) (some 1) none = xs := by
  unfold cutD
  have e1 : HT.sIx (x :: xs).length 0 (some 1) = 1 := by
    have := HT.sIx_nat (x :: xs).length 0 1
    simp only [List.length_cons] at this ⊢
    rw [show ((1 : Nat) : Int) = 1 from rfl] at this
    rw [this]
    omega
  rw [e1, HT.sIx_none]
  simp
theorem cut_to1 (x : D) (xs : List D) : cutD (x :: xs) none (some 1) = [x] := by
  unfold cutD
  have e1 : HT.sIx (x :: xs).length (x :: xs).length (some 1) = 1 := by
    have := HT.sIx_nat (x :: xs).length (x :: xs).length 1
    simp only [List.length_cons] at this ⊢
    rw [show ((1 : Nat) : Int) = 1 from rfl] at this
    rw [this]
    omega
  rw [e1, HT.sIx_none]
  simp
theorem fAdd_t {xs ys : List D} {st : Sto} (h : xs.length + ys.length ≤ 100000) : fAdd (.tup xs) (.tup ys) st = .ok (.tup (xs ++ ys)) st := by simp [fAdd, sz_lit h]
theorem fAdd_l {xs ys : List D} {st : Sto} (h : xs.length + ys.length ≤ 100000) : fAdd (.lst xs) (.lst ys) st = .ok (.lst (xs ++ ys)) st := by simp [fAdd, sz_lit h]
@[simp] theorem fListOf_t {xs : List D} {st : Sto} : fListOf (.tup xs) st = .ok (.lst xs) st := rfl
@[simp] theorem fListOf_l {xs : List D} {st : Sto} : fListOf (.lst xs) st = .ok (.lst xs) st := rfl
@[simp] theorem fTupOf_t {xs : List D} {st : Sto} : fTupOf (.tup xs) st = .ok (.tup xs) st := rfl
@[simp] theorem fTupOf_l {xs : List D} {st : Sto} : fTupOf (.lst xs) st = .ok (.tup xs) st := rfl
@[simp] theorem seqD_t {xs : List D} {st : Sto} : seqD (.tup xs) st = .ok xs st := rfl
@[simp] theorem seqD_l {xs : List D} {st : Sto} : seqD (.lst xs) st = .ok xs st := rfl
@[simp] theorem revD_t {xs : List D} {st : Sto} : revD (.tup xs) st = .ok (.tup xs.reverse) st := rfl
theorem fStr_i {i : Int} {st : Sto} (h : bits i 1900 = true) : fStr (.int i) st = .ok (.str (toString i)) st := by simp [fStr, h]
theorem bits19 {i : Int} (h : i.natAbs ≤ 10 ^ 100) : bits i 1900 = true := by
  refine bits_of ?_
  have h3 : (10 : Nat) ^ 100 < 2 ^ 1900 := by decide +kernel
  exact Nat.lt_of_le_of_lt h h3
/-! ## rows of entries -/
def Ent.word : Ent → Str
  | .str => "struck" | .bill _ _ => "bill" | .pay _ _ => "pay" | .nam _ _ _ => "named"
def Ent.nums : Ent → List Int
  | .str => [] | .bill d s => [d, s] | .pay d s => [d, s] | .nam d s k => [d, s, k]
def Ent.row (e : Ent) : List Fx.D := .str e.word :: e.nums.map Fx.D.int
theorem Ent.D_row (e : Ent) : e.D = .tup e.row := by cases e <;> rfl
theorem Ent.row_len (e : Ent) : e.row.length ≤ 4 := by cases e <;> simp [Ent.row, Ent.nums]
theorem Ent.word_ok (e : Ent) : PyData.strOk e.word = true := by cases e <;> exact strOk_of _
def isI : D → Bool
  | .int _ => true
  | _ => false
theorem eqv_sc {x y : D} (hx : isSc x = true) (hy : isSc y = true) : PyData.eqv (toP x) (toP y) = scS x y := by
  cases x <;> cases y <;> simp [isSc] at hx hy <;> simp [toP, PyData.eqv, scS] <;> rfl
theorem eqvs_sc : ∀ {xs ys : List D}, xs.length = ys.length → (∀ x ∈ xs, isSc x = true) → (∀ y ∈ ys, isSc y = true) → PyData.eqvAll (toPs xs) (toPs ys) = (xs.zip ys).all fun p => scS p.1 p.2
  | [], [], _, _, _ => rfl
  | x :: xs, y :: ys, h, h1, h2 => by
    simp only [toPs, PyData.eqvAll, List.zip_cons_cons, List.all_cons]
    rw [eqv_sc (h1 x (List.mem_cons_self ..)) (h2 y (List.mem_cons_self ..)), eqvs_sc (by simpa using h) (fun a ha => h1 a (List.mem_cons_of_mem _ ha)) fun a ha => h2 a (List.mem_cons_of_mem _ ha)]
theorem isSc_ok {x : D} (h : isSc x = true) (n : Nat) : okD x n = true := by
  cases x <;> simp [isSc] at h <;> simp [okD, h]
theorem fEq_rows {xs ys : List D} {st : Sto} (h : xs.length = ys.length) (h1 : ∀ x ∈ xs, isSc x = true) (h2 : ∀ y ∈ ys, isSc y = true) : fEq (.tup xs) (.tup ys) st = .ok (.bl (rowS (.tup xs) ys)) st := by
  have s1 : shp (.tup xs) = true := shp_of (n := 61) (okDs_all (n := 60) fun d hd => isSc_ok (h1 d hd) _) (by decide)
  have s2 : shp (.tup ys) = true := shp_of (n := 61) (okDs_all (n := 60) fun d hd => isSc_ok (h2 d hd) _) (by decide)
  have e : deq (.tup xs) (.tup ys) = rowS (.tup xs) ys := by
    simp only [deq, toP, PyData.eqv, rowS, h, decide_true, Bool.true_and]
    exact eqvs_sc h h1 h2
  simp [fEq, eqD, s1, s2, e]
end Fx
namespace Fx
theorem pf_fnOf {N : Nat} {m1 : MS} {ds : List D} {st : Sto} : fnOf N m1 ds st = fn1 (m1 (startE N ds) st) := by
  unfold fnOf fn1
  cases m1 (startE N ds) st <;> rfl
end Fx

namespace Fx
open PySem PySem.Spec PySem.Calls PyProof.Rows L2

/-! ## sorted(xs, key=lambda at: (account[at][1], at)) -/
/-- the lambda's own parameter list -/
def lamA (y : Str) (p : Pos) : Arguments := { posonlyargs := [], args := [{ arg := y, annotation := none, pos := p }], vararg := none, kwonlyargs := [], kw_defaults := [], kwarg := none, defaults := [] }
def lamBody (x y : Str) (k k2 : Nat) (q1 q2 q3 q4 q5 q6 q7 : Pos) : Expr := .Tuple [.Subscript (.Subscript (.Name x q1) (.Name y q2) q3) (.Constant (.int 1) k q4) q5, .Name y q6] k2 q7
theorem tuple_gi : typeLookup (.type "tuple") "__getitem__" = pure (some (.builtin "tuple.__getitem__")) := by rw [typeLookup_type, builtinLookup_eq_fast]; kernel_rfl
section
variable {prog : Program} {w : World} {A : Around} {s : Shared}
theorem wpS_N {env : Env} {value : Expr} {x : Str} {p pos : Pos} {Q E : Value → Shared → Prop}
    (h : wpAny (model prog w) A (eval value env) (fun o s₁ => wpAny (model prog w) A (eval (.Name x p) env) (fun i s₂ => SubscriptOn (model prog w) A o i Q E s₂) E s₁) E s) :
    wpAny (model prog w) A (eval (.Subscript value (.Name x p) pos) env) Q E s := by
  rw [eval_Subscript]
  refine wpAny_bind (wpAny_mono h (fun o s₁ h₁ => wpAny_bind (wpAny_holding (wpAny_mono h₁ (fun i s₂ h₂ => wpAny_bind (wpAny_standAt ?_)) fun _ _ x => x)))
    fun _ _ x => x)
  obtain ⟨T, id, hl, hT, hg⟩ := h₂
  refine wpAny_bind ?_
  rw [getitemInPython_of_ne hT.not_modules]
  refine wpAny_bind (wpAny_specialOf hT hl ?_)
  have fin : wpAny (model prog w) A (operate [o, i] (getItem o i)) (fun r s₃ => wpAny (model prog w) A (letTemporaryGo value o r >>= fun _ => pure r) Q E s₃) E s₂ :=
    wpAny_operating (wpAny_mono hg (fun r s₃ h₃ => wpAny_bind (wpAny_letTemporaryGo (wpAny_pure h₃))) fun _ _ x => x)
  first
    | exact wpAny_pure (wpAny_bind fin)
    | exact wpAny_bind (wpAny_pure (wpAny_bind fin))
    | exact wpAny_bind fin
theorem wpS_C {env : Env} {value : Expr} {c : Const} {kd : Nat} {p pos : Pos} {Q E : Value → Shared → Prop}
    (h : wpAny (model prog w) A (eval value env) (fun o s₁ => wpAny (model prog w) A (eval (.Constant c kd p) env) (fun i s₂ => SubscriptOn (model prog w) A o i Q E s₂) E s₁) E s) :
    wpAny (model prog w) A (eval (.Subscript value (.Constant c kd p) pos) env) Q E s := by
  rw [eval_Subscript]
  refine wpAny_bind (wpAny_mono h (fun o s₁ h₁ => wpAny_bind (wpAny_holding (wpAny_mono h₁ (fun i s₂ h₂ => wpAny_bind (wpAny_standAt ?_)) fun _ _ x => x)))
    fun _ _ x => x)
  obtain ⟨T, id, hl, hT, hg⟩ := h₂
  refine wpAny_bind ?_
  rw [getitemInPython_of_ne hT.not_modules]
  refine wpAny_bind (wpAny_specialOf hT hl ?_)
  have fin : wpAny (model prog w) A (operate [o, i] (getItem o i)) (fun r s₃ => wpAny (model prog w) A (letTemporaryGo value o r >>= fun _ => pure r) Q E s₃) E s₂ :=
    wpAny_operating (wpAny_mono hg (fun r s₃ h₃ => wpAny_bind (wpAny_letTemporaryGo (wpAny_pure h₃))) fun _ _ x => x)
  first
    | exact wpAny_pure (wpAny_bind fin)
    | exact wpAny_bind (wpAny_pure (wpAny_bind fin))
    | exact wpAny_bind fin
theorem seqIx {i n : Nat} (h : i < n) : seqIndex? (i : Int) n = some i := by
  unfold seqIndex?
  simp
  omega
theorem key_line {f cA a b : Addr} {q x y : Str} {p : Pos} {k k2 : Nat} {q1 q2 q3 q4 q5 q6 q7 : Pos} {scope : Scope} {clo : List (Str × Addr)} {pm ctv : Value} {c' : Addr} {its itb : Array Value} {i : Nat} {t td : Tok} {d : Int}
    (hr : A.depth < recursionLimit) (lim : s.heap.NoLimit) (hf : s.heap.get? f = some (PySem.W.kla_obj "<lambda>" q (lamA y p) (lamBody x y k k2 q1 q2 q3 q4 q5 q6 q7) scope clo pm c' ctv)) (hc : s.heap.CodeRec (.ref c') q)
    (hk : scope.kind = .function) (hco : scope.isCoroutine = false) (hgen : scope.isGenerator = false) (hy : scope.names.lookup y = some .local) (hx : scope.names.lookup x = some .free) (hcell : ∀ z ∈ scope.names, z.2 ≠ .cell)
    (hclo : clo.lookup x = some cA) (hA : s.heap.IsCell cA (some (.ref a))) (ha : IsTup s.heap a its) (hi : its[i]? = some (.ref b)) (hi2 : (i : Int) < 2 ^ 63) (hb : IsTup s.heap b itb) (hd : itb[1]? = some (.int d td))
    (hbd : bindArgs (PySem.W.kla_fn "<lambda>" q (lamA y p) (lamBody x y k k2 q1 q2 q3 q4 q5 q6 q7) scope clo pm (.ref c') ctv) ⟨[.int i t], []⟩ = pure [(y, .int i t)]) (dx : (x == ("__debug__" : Str)) = false) (dy : (y == ("__debug__" : Str)) = false) (dcx : (x == ("__classdict__" : Str)) = false) :
    wpAny (model prog w) A (call (.ref f) [.int i t]) (PySem.W.KeyPure (.tuple [.int d, .int i]) s) (fun _ _ => False) s := by
  refine wpAny_call ?_
  refine PySem.W.kla_callFunE hr hf rfl hco hgen rfl hc ?_
  rw [hbd]
  refine wpAny_pure (wpAny_newFunctionEnv hcell (fun z hz => by simp at hz; subst hz; exact hy) (fun h' hns hsb => ⟨lim.fresh _ hsb, ?_⟩) hk)
  have kp : ∀ b o, s.heap.get? b = some o → h'.get? b = some o := fun b o e => hsb.extBut b o (Nat.ne_of_lt (Heap.lt_size e)) (Heap.get?_push_of_some _ e)
  have lk : (fun z => ([(y, Value.int i t)] : List (Str × Value)).reverse.lookup z) y = some (.int i t) := by simp
  refine PySem.W.kla_codeExpr ?_
  refine wpAny_Tuple (wpAny_items_cons ?_)
  have cellK : h'.IsCell cA (some (.ref a)) := let ⟨o, ho, hd⟩ := hA; ⟨o, kp _ _ ho, hd⟩
  have hns' : h'.Ns s.heap.objs.size (fun z => ([(y, Value.int i t)] : List (Str × Value)).reverse.lookup z) := hns
  refine wpS_C (wpS_N (wpAny_Name (wpAny_loadName_free hk hx hclo cellK ?_ dcx) dx))
  refine wpAny_Name (wpAny_loadName_local (m := fun z => ([(y, Value.int i t)] : List (Str × Value)).reverse.lookup z) hk hy hns' lk ?_) dy
  have ha' : IsTup h' a its := ha.keeps kp
  have hb' : IsTup h' b itb := hb.keeps kp
  have li : i < its.size := (Array.getElem?_eq_some_iff.mp hi).1
  have l1 : 1 < itb.size := (Array.getElem?_eq_some_iff.mp hd).1
  refine ⟨_, _, tuple_gi, ha'.typeIs, getItem_tuple ha' (by omega) hi2 (seqIx li) hi ?_⟩
  refine wpAny_Constant_int ?_
  refine ⟨_, _, tuple_gi, hb'.typeIs, getItem_tuple hb' (by decide) (by decide) (seqIx (i := 1) l1) hd ?_⟩
  refine wpAny_items_cons (wpAny_Name (wpAny_loadName_local (m := fun z => ([(y, Value.int i t)] : List (Str × Value)).reverse.lookup z) hk hy hns' lk ?_) dy)
  refine wpAny_items_nil ⟨by show 2 ≤ sizeLine; decide, ?_⟩
  refine ⟨_, _, rfl, fun b o e => Heap.get?_push_of_some _ (kp b o e), ?_⟩
  exact .tuple (Heap.get?_push_size _ rfl) rfl rfl (.cons (.int d td) (.cons (.int i t) .nil))
end

/-! ## a def whose code object is known -/
section
variable {P : Program} {w : World} {K : PySem.W.Frag} {mg : Str → Option Value} {base : Heap} {cn : CN} {k n : Nat} {x qual : Str} {params : Arguments} {body : List Stmt} {scope : Scope} {fd : FuncData} {N ps : List Str} {m : MS}
theorem fnK_ofL (F : FunD K x qual params body scope [] [] (He.ga K x) fd) (S : FnScope N ps scope) (hn : ps.length = n)
    (hbody : ∀ (A : Around) (outer : List Env) (s : Shared) (H : Hp) (E : XK) (W : WX), Ctx (cxOf (L2.CX P w) P w K mg base N qual scope (He.ga K x) (.ref (codeAd K x)) A outer s H E) W k → SndSs (cxOf (L2.CX P w) P w K mg base N qual scope (He.ga K x) (.ref (codeAd K x)) A outer s H E) cn W body m) :
    FnOk P w K mg base (L2.CX P w) (k + 1) (He.ga K x) fd ps (fun vs H Q E => vs.length = n ∧ spOf K cn (fnOf N.length m) vs H Q E) := by
  obtain ⟨oc, od, dV, kV, doc, pm, an, cdv, ct, osl, rfl, lk, hcd, _, _⟩ := F.ex
  have e : cdv = .ref (codeAd K x) := by
    unfold codeAd
    rw [lk]
    unfold PySem.W.codeIn at hcd
    cases cdv with
    | ref c => rfl
    | _ => cases hcd
  refine fn_of lk hcd S (fun vs H Q E h => h.1.trans hn.symm) fun A outer s H vs Q E hr hsp => ?_
  obtain ⟨hl, r, ds, st, Ex, rs, xo, rd, p⟩ := hsp
  subst e
  have hW := takes_of (X := cxOf (L2.CX P w) P w K mg base N qual scope (He.ga K x) (.ref (codeAd K x)) A outer s H E) rfl rfl rfl rfl
  exact body_at rfl (hbody A outer s H E _ ⟨hW, passes_of rfl, rfl, S.nd, hr, rfl, rfl⟩) rs xo rd (fun _ _ _ _ z => z) p
theorem fnS_ofL (F : FunD K x qual params body scope [] [] (He.ga K x) fd) (gf : mg x = some (.ref (He.ga K x))) (S : FnScope N ps scope) (hn : ps.length = n)
    (hb : ∀ (kV doc pm : Value) (an : Option Addr) (cdv ct : Value) (us : List Value), us.length = ps.length → bindArgs (PySem.W.fnOf x qual params body scope .none kV doc pm an cdv ct) ⟨us, []⟩ = pure (ps.zip us))
    (hbody : ∀ (A : Around) (outer : List Env) (s : Shared) (H : Hp) (E : XK) (W : WX), Ctx (cxOf (L2.CX P w) P w K mg base N qual scope (He.ga K x) (.ref (codeAd K x)) A outer s H E) W k → SndSs (cxOf (L2.CX P w) P w K mg base N qual scope (He.ga K x) (.ref (codeAd K x)) A outer s H E) cn W body m) :
    FnS P w K mg base cn x (k + 1) (fnOfN n N.length m) := by
  refine ⟨_, gf, F.kp, ((fnK_ofL F S hn hbody).raw (F.bindsN hb) .nil).imp fun vs H Q E h => ?_⟩
  rw [List.append_nil]
  obtain ⟨r, ds, st, Ex, rs, xo, rd, p⟩ := h
  unfold fnOfN at p
  by_cases hl : ds.length = n
  · rw [if_pos hl] at p
    exact ⟨rd.length.trans hl, r, ds, st, Ex, rs, xo, rd, p⟩
  · rw [if_neg hl] at p; exact p.elim
end

/-! ## the lambda is made, what stays said in full -/
section
variable {X : Cx} {pins : List (Addr × Obj)} {σ : L2.St} {H : Hp} {s : Shared}
def TblsGo (H H1 : Hp) : Prop := ∀ b ps, H b = some (.tbl ps) → ∃ ps', H1 b = some (.tbl ps')
theorem lam_make3 {T : List (Addr × Str)} {c P : Addr} {params : Arguments} {body : Expr} {scope : Scope} {pos : Pos} {E : Value → Shared → Prop} {Q : Value → Shared → Prop} (I : Inv X pins σ H s) (TB : LamX.TabB X.base X.mg c P) (hcode : X.env.code = .ref c)
    (hm : (P, X.env.qual ++ "<lambda>") ∈ T) (hu : ∀ p ∈ T, p.1 = P → p.2 = X.env.qual ++ "<lambda>") (hT : LamX.Tabs T H) (hdef : defaultsOf params X.env = ([], [])) (hfree : ∀ y ∈ scope.names, y.2 = .free → ∃ c, X.env.cells.lookup y.1 = some c)
    (h : ∀ (f c' : Addr) (pm ctv : Value) (H1 : Hp) (s' : Shared), Inv X pins σ H1 s' → LamX.ExtN H H1 → LamX.Tabs T H1 → TblsGo H H1 →
      s'.heap.get? f = some (PySem.W.kla_obj "<lambda>" (X.env.qual ++ "<lambda>") params body scope (cloFrom X.env.cells scope.names []) pm c' ctv) → H1 c' = some (LamX.CodeO c' (X.env.qual ++ "<lambda>")) → Q (.ref f) s') :
    wpAny (model X.prog X.w) X.A (eval (.Lambda params body scope pos) X.env) Q E s := by
  obtain ⟨ps, hP, ht, ha⟩ := hT _ hm
  have bP : s.heap.BuiltinsAt X.mg P := TB.bm.keeps I.bk
  have hP' := I.hok P _ hP
  refine PySem.W.kla_eval hdef ?_
  cases hc : codeAmong pos ps.toList with
  | some cv =>
    obtain ⟨c', rfl, hco⟩ := ha pos cv hc
    refine PySem.W.kla_makeFunctionHit (mg := X.mg) (closure_ok hfree) I.ok.glob (I.mod.glob.keeps I.bk) hcode (TB.code.keeps I.bk) hP' ht hc bP fun ctv h' tk hx hsz => ?_
    exact h _ c' _ ctv H _ (I.kept fun b o e => Heap.get?_push_of_some _ (hx b o e)) (.refl H) hT (fun b ps e => ⟨ps, e⟩) (Heap.get?_push_size _ rfl) hco
  | none =>
    refine PySem.W.kla_makeFunction (mg := X.mg) (closure_ok hfree) I.ok.glob (I.mod.glob.keeps I.bk) hcode (TB.code.keeps I.bk) hP' ht hc TB.gP bP fun c' ctv h' tk hx hge hlt hrec htb => ?_
    obtain ⟨c2, oc, vs, t, e2, hoc, hd, hv⟩ := hrec
    cases e2
    have nC : H c' = none := I.hok.fresh hge
    have J := LamX.inv_table (t' := tk) (more := #[rawInt pos.line, rawInt pos.col, .ref c']) (h' := h'.push (PySem.W.kla_obj "<lambda>" (X.env.qual ++ "<lambda>") params body scope (cloFrom X.env.cells scope.names []) ((X.mg "__name__").getD .none) c' ctv)) I hP
      (fun b o hb e => Heap.get?_push_of_some _ (hx b o hb e)) (Heap.get?_push_of_some _ htb) hge ⟨oc, vs, t, Heap.get?_push_of_some _ hoc, hd, hv⟩
    have at_ : ∀ b o, H b = some o → b ≠ P → upd (upd H P (.tbl (ps ++ #[rawInt pos.line, rawInt pos.col, .ref c']))) c' (LamX.CodeO c' (X.env.qual ++ "<lambda>")) b = some o := fun b o e hb => by
      rw [upd_ne (ne_of_none e nC), upd_ne hb]; exact e
    have atP : upd (upd H P (.tbl (ps ++ #[rawInt pos.line, rawInt pos.col, .ref c']))) c' (LamX.CodeO c' (X.env.qual ++ "<lambda>")) P = some (.tbl (ps ++ #[rawInt pos.line, rawInt pos.col, .ref c'])) := by
      rw [upd_ne (ne_of_none hP nC), upd_same]
    have ex : LamX.ExtN H (upd (upd H P (.tbl (ps ++ #[rawInt pos.line, rawInt pos.col, .ref c']))) c' (LamX.CodeO c' (X.env.qual ++ "<lambda>"))) := fun b o e n => at_ b o e fun z => n ps (by rw [z, hP] at e; exact (Option.some.inj e).symm)
    have eL : (ps ++ #[rawInt pos.line, rawInt pos.col, .ref c']).toList = ps.toList ++ [rawInt pos.line, rawInt pos.col, .ref c'] := by simp
    refine h _ c' _ ctv _ _ J ex (fun p hp => ?_) (fun b qs e => ?_) (Heap.get?_push_size _ rfl) upd_same
    · by_cases hb : p.1 = P
      · rw [hu p hp hb, hb]
        refine ⟨_, atP, by rw [eL]; exact PySem.TriplesOk_snoc _ _ _ _ ht, fun p' cv hcv => ?_⟩
        rw [eL] at hcv
        rcases LamX.among_app _ ht hcv with z | z
        · obtain ⟨c0, e1, e2⟩ := ha p' cv z
          exact ⟨c0, e1, ex _ _ e2 LamX.codeO_ne⟩
        · exact ⟨c', z, upd_same⟩
      · obtain ⟨ps', a1, a2, a3⟩ := hT p hp
        refine ⟨ps', at_ _ _ a1 hb, a2, fun p' cv hcv => ?_⟩
        obtain ⟨c0, e1, e2⟩ := a3 p' cv hcv
        exact ⟨c0, e1, ex _ _ e2 LamX.codeO_ne⟩
    · by_cases hb : b = P
      · rw [hb]; exact ⟨_, atP⟩
      · exact ⟨qs, at_ b _ e hb⟩
end

/-! ## the whole call -/
def leK (p q : Int × Nat) : Bool := decide (p.1 < q.1 ∨ (p.1 = q.1 ∧ p.2 ≤ q.2))
def kInt (k : Int × Nat) : V := .int (k.2 : Int)
/-- the rows' days by the indexes -/
def RowsAt (K : PySem.W.Frag) (H : Hp) (rows : List V) (ks : List (Int × Nat)) : Prop := ∀ k ∈ ks, ∃ b es, rows[k.2]? = some (.ref b) ∧ SqT K H b es ∧ es[1]? = some (.int k.1)
def tSortLam (K : PySem.W.Frag) (T : List (Addr × Str)) (i : Nat) (te : TE) : TE := fun σ H Q => te σ H fun v H1 => ∃ (p a : Addr) (rows : List V) (ks : List (Int × Nat)), v = .ref p ∧ SqL K H1 p (ks.map kInt) ∧ σ[i]? = some (some (.ref a)) ∧ SqT K H1 a rows ∧ RowsAt K H1 rows ks ∧ LamX.Tabs T H1 ∧
  ∀ H2 q, LamX.ExtN H1 H2 → TblsGo H1 H2 → LamX.Tabs T H2 → H2 q = none → Q (.ref q) (upd H2 q (.lst ((ks.mergeSort leK).map kInt)))
theorem extN_rd {H H' : Hp} {a : Addr} {xs : List V} (e : LamX.ExtN H H') (h : Rd H a (.lst xs)) : Rd H' a (.lst xs) := h.elim (fun h => .inl (e _ _ h fun ps z => by cases z)) fun ⟨o, h⟩ => .inr ⟨o, e _ _ h fun ps z => by cases z⟩
theorem extN_rt {H H' : Hp} {a : Addr} {xs : List V} (e : LamX.ExtN H H') (h : Rd H a (.tup xs)) : Rd H' a (.tup xs) := h.elim (fun h => .inl (e _ _ h fun ps z => by cases z)) fun ⟨o, h⟩ => .inr ⟨o, e _ _ h fun ps z => by cases z⟩
theorem extN_l {K : PySem.W.Frag} {H H' : Hp} {a : Addr} {xs : List V} (e : LamX.ExtN H H') (h : SqL K H a xs) : SqL K H' a xs := h.elim (fun h => .inl (extN_rd e h)) .inr
theorem extN_t {K : PySem.W.Frag} {H H' : Hp} {a : Addr} {xs : List V} (e : LamX.ExtN H H') (h : SqT K H a xs) : SqT K H' a xs := h.elim (fun h => .inl (extN_rt e h)) .inr
/-- what the lambda's scope must say -/
def lamScB (sc scope : Scope) (x y : Str) : Bool := decide (scope.kind = .function) && (!scope.isCoroutine && (!scope.isGenerator && (decide (scope.names.lookup y = some .local) && (decide (scope.names.lookup x = some .free) && ((scope.names.all fun z => !decide (z.2 = .cell)) && ((scope.names.all fun z => !decide (z.2 = .free) || decide (sc.names.lookup z.1 = some .cell) || decide (sc.names.lookup z.1 = some .free)) && decide (sc.names.lookup x = some .cell)))))))
section
variable {X : Cx}
theorem vals_each {R : Value → Int × Nat → Prop} : ∀ {ks : List (Int × Nat)} {its : List Value}, Vals (ks.map kInt) its → (∀ k ∈ ks, ∀ t, R (.int (k.2 : Int) t) k) → PySem.W.EachIs R its ks
  | [], _, .nil, _ => .nil
  | k :: ks, _, .cons h hs, f => by
    obtain ⟨t, rfl⟩ := h
    exact .cons (f k (List.mem_cons_self ..) t) (vals_each hs fun z hz => f z (List.mem_cons_of_mem _ hz))
theorem each_vals : ∀ {ks : List (Int × Nat)} {its : List Value}, PySem.W.EachIs (fun v (k : Int × Nat) => ∃ t, v = .int (k.2 : Int) t) its ks → Vals (ks.map kInt) its
  | _, _, .nil => .nil
  | _, _, .cons h hs => .cons h (each_vals hs)
theorem blt_sorted : bootBuiltins "sorted" = some (.builtin "sorted") := by decide +kernel
theorem pe_sortLam {T : List (Addr × Str)} {c P : Addr} {x y : Str} {i : Nat} {e : Expr} {te : TE} {p pos pa lpos kp q1 q2 q3 q4 q5 q6 q7 : Pos} {k k2 : Nat} {scope : Scope} (hg : Gl X "sorted") (hmg : X.mg "sorted" = none) (he : PE X e te)
    (TB : LamX.TabB X.base X.mg c P) (hcode : X.env.code = .ref c) (hm : (P, X.env.qual ++ "<lambda>") ∈ T) (hu : ∀ p ∈ T, p.1 = P → p.2 = X.env.qual ++ "<lambda>") (hN : X.N[i]? = some x) (hsc : lamScB X.env.scope scope x y = true)
    (hr : X.A.in1.in1.depth < recursionLimit) (hun : X.A.units + 64 < cLine) (hdef : defaultsOf (lamA y pa) X.env = ([], []) := by rfl)
    (hbd : ∀ (q : Str) (clo : List (Str × Addr)) (pm c' ctv v : Value), bindArgs (PySem.W.kla_fn "<lambda>" q (lamA y pa) (lamBody x y k k2 q1 q2 q3 q4 q5 q6 q7) scope clo pm c' ctv) ⟨[v], []⟩ = pure [(y, v)] := by intro _ _ _ _ _ _; rfl)
    (dx : (x == ("__debug__" : Str)) = false := by decide) (dy : (y == ("__debug__" : Str)) = false := by decide) (dcx : (x == ("__classdict__" : Str)) = false := by decide) (hs : backTo pos (starEach [e] X.env) = (false, eval e X.env) :: backTo pos (starEach [] X.env) := by rfl) (hpl : (backTo pos (starEach [e] X.env)).any (·.1) = false := by rfl) :
    PE X (.Call (.Name "sorted" p) [e] [⟨some "key", .Lambda (lamA y pa) (lamBody x y k k2 q1 q2 q3 q4 q5 q6 q7) scope lpos, kp⟩] pos) (tSortLam X.K T i te) := by
  simp only [lamScB, Bool.and_eq_true, Bool.or_eq_true, decide_eq_true_eq, Bool.not_eq_true', List.all_eq_true, decide_eq_false_iff_not] at hsc
  obtain ⟨c1, c2, c3, c4, c5, c6, c7, c8⟩ := hsc
  refine ⟨fun pins s σ H Q I h => ?_⟩
  refine wpAny_Call_Name_kw (ld_blt I hg hmg blt_sorted ?_ (by decide) (by decide))
  refine PyProof.Rows.callWith_kw (Q := EP X pins σ Q) ?_ hs hpl (by rfl) (by rfl)
  rw [hs]
  refine Calls.spliced_cons (thn (he.run pins s σ H _ I h) fun u s1 ⟨v, H1, I1, r1, q1⟩ => Calls.spliced_nil ?_)
  obtain ⟨p, a, rows, ks, rfl, hl, hi, ha, hro, hT, q⟩ := q1
  obtain rfl : u = Value.ref p := r1
  have hfree : ∀ z ∈ scope.names, z.2 = .free → ∃ c, X.env.cells.lookup z.1 = some c := fun z hz e => by
    rcases c7 z hz with (h1 | h1) | h1
    · exact absurd e h1
    · exact I.ok.has _ (.inl h1)
    · exact I.ok.has _ (.inr h1)
  obtain ⟨cA, hcA⟩ := I.ok.has x (.inl c8)
  show wpAny _ _ (evalAll ((do let v ← eval (.Lambda (lamA y pa) (lamBody x y k k2 q1 q2 q3 q4 q5 q6 q7) scope lpos) X.env; standAt pos; pure v) :: [])) _ _ s1
  refine wpAny_evalAll_cons (wpAny_bind (lam_make3 I1 TB hcode hm hu hT hdef hfree fun f c' pm ctv H2 s2 I2 ex hT2 tg hf hco => wpAny_bind (wpAny_standAt (wpAny_pure (wpAny_evalAll_nil ?_)))))
  show wpAny _ _ (call (.builtin "sorted") [.ref p] [(Str.ofString "key", .ref f)]) (EP X pins σ Q) X.xe s2
  obtain ⟨its, rv, pl, hz⟩ := I2.list (extN_l ex hl)
  obtain ⟨ita, rva, hta, _⟩ := I2.tuple (extN_t ex ha)
  have cell : s2.heap.IsCell cA (some (.ref a)) := by
    obtain ⟨m, _, hloc⟩ := I2.loc
    obtain ⟨u, ru, lk⟩ := hloc i x _ hN hi (.inr (.inl c8))
    obtain rfl : u = Value.ref a := ru
    rcases lk with ⟨z, _⟩ | ⟨_, c, z1, z2⟩
    · have z : X.env.scope.names.lookup x = some .local := z
      rw [c8] at z; cases z
    · rw [hcA] at z1; cases z1; exact z2
  have hclo : (cloFrom X.env.cells scope.names []).lookup x = some cA := NdefX.clo_has hfree (PySem.mem_of_lookup c5) hcA
  have hrec : s2.heap.CodeRec (.ref c') (X.env.qual ++ "<lambda>") := by
    obtain ⟨oc, vs, t, h1, h2, h3⟩ := (I2.hok c' _ hco).1
    exact ⟨c', oc, vs, t, rfl, h1, h2, h3⟩
  have hsz : ks.length ≤ sizeLine := by simpa using hz
  have e1 : PySem.W.EachIs (fun (v : Value) (k : Int × Nat) => (∃ t, v = .int (k.2 : Int) t)) its ks := vals_each rv fun k _ t => ⟨t, rfl⟩
  refine PySem.W.sorted_key_data (b := false) (fun q : Int × Nat => .tuple [.int q.1, .int (q.2 : Int)]) pl.isList e1 (PySem.W.AllAlike.of fun _ _ => by simp [PySem.W.alike, PySem.W.alikeAll]) (PySem.W.Sortable.tuples fun _ => ⟨_, _, rfl⟩) hsz (fun q _ => ?_) (PyProof.Rows.ksk_s1 _ _) (fun _ => PyProof.Rows.ksk_l1 _ _) (fun _ => PyProof.Rows.ksk_t1 _ _)
    (fun v q ⟨t, ev⟩ hq h tk kp => ?_) fun out cc h' tk kp hno hD hlen eo => ?_
  · have hd : (PyData.tuple [.int q.1, .int (q.2 : Int)]).depth = 1 := by simp [PyData.depth, PyData.depthAll]
    rw [hd]; omega
  · subst ev
    obtain ⟨b, es, r1, r2, r3⟩ := hro q hq
    obtain ⟨itb, rvb, htb, _⟩ := I2.tuple (extN_t ex r2)
    obtain ⟨u, hu1, hu2⟩ := rva.get r1
    obtain rfl : u = Value.ref b := hu2
    obtain ⟨w, hw1, td, rfl⟩ := rvb.get r3
    have lp := (List.getElem?_eq_some_iff.mp hu1).1
    have lz : ita.length ≤ sizeLine := by
      have := rva.length
      omega
    have s63 : sizeLine < 2 ^ 63 := by decide
    exact key_line (s := { s2 with heap := h, toks := tk }) hr (I2.nolimit.keeps kp) (kp _ _ hf) (by
      obtain ⟨c0, oc, vs, t, z1, z2, z3⟩ := hrec
      exact ⟨c0, oc, vs, t, z1, kp _ _ z2, z3⟩) c1 c2 c3 c4 c5 c6 hclo (let ⟨o, z1, z2⟩ := cell; ⟨o, kp _ _ z1, z2⟩) (hta.keeps kp) (by simpa using hu1) (by omega) (htb.keeps kp) (by simpa using hw1) (hbd _ _ _ _ _ _) dx dy dcx
  · have hq := PySem.W.dataLe_ii (β := Int × Nat) (fun q => q.1) (fun q => (q.2 : Int))
    rw [hq] at eo
    have ee : (fun (p q : Int × Nat) => decide (p.1 < q.1 ∨ (p.1 = q.1 ∧ (p.2 : Int) ≤ (q.2 : Int)))) = leK := by
      funext p q
      unfold leK
      congr 1
      simp
    rw [ee] at eo
    refine ⟨.ref _, upd H2 (s2.heap.objs.size + 1) (.lst ((ks.mergeSort leK).map kInt)), I2.laid kp (Nat.le_succ _) ⟨?_, out, cc, each_vals eo, hD⟩, rfl, q H2 _ ex tg hT2 (I2.hok.fresh (Nat.le_succ _))⟩
    rw [List.length_map, (List.mergeSort_perm ks leK).length_eq]
    exact hsz
end
end Fx

namespace Fx
open PySem PySem.Spec PySem.Calls PyProof.Rows L2

/-! ## sorted(xs) -/
def rSortD (K : PySem.W.Frag) : List V → Hp → VK → Prop := fun xs H Q => ∃ (a : Addr) (bs : List (V × PyData)), xs = [.ref a] ∧ SqL K H a (bs.map (·.1)) ∧ (∀ b ∈ bs, Dp K H b.1 b.2) ∧ PySem.W.AllAlike (bs.map (·.2)) ∧ PySem.W.Sortable (bs.map (·.2)) ∧ (∀ b ∈ bs, b.2.depth ≤ 40) ∧
  ∀ p, H p = none → Q (.ref p) (upd H p (.lst ((bs.mergeSort (PySem.W.dataLe false fun b => b.2)).map (·.1))))
theorem each_of {bs : List (V × PyData)} {R : Value → V × PyData → Prop} : ∀ {bs : List (V × PyData)} {us : List Value}, Vals (bs.map (·.1)) us → (∀ b ∈ bs, ∀ u, RelV b.1 u → R u b) → PySem.W.EachIs R us bs
  | [], _, .nil, _ => .nil
  | b :: bs, _, .cons h hs, f => .cons (f b (List.mem_cons_self ..) _ h) (each_of (bs := bs) hs fun z hz => f z (List.mem_cons_of_mem _ hz))
theorem of_each : ∀ {bs : List (V × PyData)} {us : List Value}, PySem.W.EachIs (fun u (b : V × PyData) => RelV b.1 u) us bs → Vals (bs.map (·.1)) us
  | _, _, .nil => .nil
  | _, _, .cons h hs => .cons h (of_each hs)
theorem cr_sortD {X : Cx} (hu : X.A.units + 64 < cLine) : CallR X (.builtin "sorted") (rSortD X.K) := by
  intro pins s σ H xs us Q I r h
  obtain ⟨a, bs, rfl, hl, hd, hal, hsk, hdep, q⟩ := h
  rw [Vals.ref1 r]
  obtain ⟨its, rv, pl, hz⟩ := I.list hl
  have hz : bs.length ≤ sizeLine := by simpa using hz
  refine PySem.W.sorted_data (enc := fun b : V × PyData => b.2) (R := fun u (b : V × PyData) => RelV b.1 u) pl.isList (each_of (bs := bs) rv fun _ _ _ z => z) (each_of (bs := bs) rv fun b hb u z => Dp.reads I _ _ _ (hd b hb) z) hal hsk hz (fun b hb => ?_) fun out hlen eo => ?_
  · have := hdep b hb
    omega
  · obtain ⟨ep, he'⟩ := PyProof.Rows.sortedAll_at s.heap its (List.toArray out)
    refine ⟨.ref _, upd H (s.heap.objs.size + 1) (.lst ((bs.mergeSort (PySem.W.dataLe false fun b => b.2)).map (·.1))), I.laid (t' := s.toks) (fun _ _ => PyProof.Rows.sortedAll_old) (Nat.le_succ _) ⟨?_, _, ep, of_each eo, he'⟩, rfl, q _ (I.hok.fresh (Nat.le_succ _))⟩
    rw [List.length_map, (List.mergeSort_perm ..).length_eq]
    exact hz
def rowD (r : List Int) : D := .tup (r.map D.int)
def rowI : D → Option (List Int)
  | .tup ds => intsD ds
  | _ => none
def rowsI : List D → Option (List (List Int))
  | [] => some []
  | d :: ds => match rowI d, rowsI ds with
    | some r, some rs => some (r :: rs)
    | _, _ => none
/-- rows of ints, by their order -/
def leR : List Int → List Int → Bool := PySem.W.dataLe false fun r : List Int => PyData.tuple (r.map PyData.int)
def sortL (ds : List D) : Option (List D) := match intsD ds with
  | some ns => some ((ns.mergeSort fun a b => decide (a ≤ b)).map D.int)
  | none => match rowsI ds with
    | some rs => if rs.all (fun r => decide (0 < r.length)) = true then some ((rs.mergeSort leR).map rowD) else none
    | none => none
def fSort (d : D) (st : Sto) : R D := match (lsOf st d).bind sortL with
  | some es => .ok (.lst es) st
  | none => .bad
theorem rowI_of {d : D} {r : List Int} (h : rowI d = some r) : d = rowD r := by
  cases d with
  | tup ds => rw [ints_rel (show intsD ds = some r from h)]; rfl
  | _ => cases h
theorem rowsI_of : ∀ {ds : List D} {rs : List (List Int)}, rowsI ds = some rs → ds = rs.map rowD
  | [], _, h => by cases h; rfl
  | d :: ds, rs, h => by
    unfold rowsI at h
    cases e1 : rowI d with
    | none => rw [e1] at h; cases h
    | some r =>
      cases e2 : rowsI ds with
      | none => rw [e1, e2] at h; cases h
      | some rs' => rw [e1, e2] at h; cases h; rw [rowI_of e1, rowsI_of e2]; rfl
section
variable {K : PySem.W.Frag} {cn : CN} {Ex : Addr → Prop} {r : List Addr} {H : Hp} {st : Sto}
theorem toPs_ints : ∀ ns : List Int, toPs (ns.map D.int) = ns.map PyData.int
  | [] => rfl
  | n :: ns => by simp only [List.map_cons, toPs, toP, toPs_ints ns]
theorem canLay_ints : ∀ ns : List Int, PyData.canLayAll0 (ns.map PyData.int) = true
  | [] => rfl
  | n :: ns => by simp only [List.map_cons, PyData.canLayAll0, PyData.canLay0, Bool.true_and, canLay_ints ns]
theorem zip_map1 {α β : Type} : ∀ {xs : List α} {ys : List β}, xs.length = ys.length → (xs.zip ys).map (·.1) = xs
  | [], [], _ => rfl
  | x :: xs, y :: ys, h => by simp only [List.zip_cons_cons, List.map_cons]; rw [zip_map1 (by simpa using h)]
theorem zip_map2 {α β : Type} : ∀ {xs : List α} {ys : List β}, xs.length = ys.length → (xs.zip ys).map (·.2) = ys
  | [], [], _ => rfl
  | x :: xs, y :: ys, h => by simp only [List.zip_cons_cons, List.map_cons]; rw [zip_map2 (by simpa using h)]
theorem rds_zip {α : Type} {e : α → D} : ∀ {vs : List V} {xs : List α}, RDs K r H Ex vs (xs.map e) → ∀ b ∈ vs.zip xs, RD K r H Ex b.1 (e b.2)
  | _, [], .nil, b, hb => by simp at hb
  | _, x :: xs, .cons h hs, b, hb => by
    simp only [List.zip_cons_cons, List.mem_cons] at hb
    rcases hb with rfl | hb
    · exact h
    · exact rds_zip hs b hb
theorem zip_rds {α : Type} {e : α → D} : ∀ {bs : List (V × α)}, (∀ b ∈ bs, RD K r H Ex b.1 (e b.2)) → RDs K r H Ex (bs.map (·.1)) (bs.map fun b => e b.2)
  | [], _ => .nil
  | b :: bs, h => .cons (h b (List.mem_cons_self ..)) (zip_rds fun z hz => h z (List.mem_cons_of_mem _ hz))
theorem mergeSort_map_ {α β : Type} {f : α → β} {le : β → β → Bool} (l : List α) : (l.mergeSort fun a b => le (f a) (f b)).map f = (l.map f).mergeSort le := by
  exact List.map_mergeSort (r := fun a b => le (f a) (f b)) (s := le) (f := f) (fun _ _ _ _ => rfl)
/-- the rule asks what the function gives -/
theorem sort_gen {α : Type} {e : α → D} {k : α → PyData} {le : α → α → Bool} {xs : List α} {x : V} {d : D} {s : L2.St} {W : WX} {Q : VK} (xo : ExO Ex H) (rs : RelSt K cn r st H) (rx : RD K r H Ex x d) (hl : lsOf st d = some (xs.map e)) (hk : ∀ a ∈ xs, toP (e a) = k a ∧ (k a).canLay0 = true ∧ (k a).depth ≤ 40) (hal : PySem.W.AllAlike (xs.map k)) (hsk : PySem.W.Sortable (xs.map k))
    (hle : (PySem.W.dataLe false k) = le) (p : PostE K cn W Ex (.ok (.lst ((xs.mergeSort le).map e)) st) r H s Q) : rSortD K [x] H Q := by
  obtain ⟨a, ws, rfl, h2, h3⟩ := ls_at rs rx hl
  have hlen : ws.length = xs.length := by simpa using h3.length
  have e1 : (ws.zip xs).map (fun b => (b.1, k b.2)) = ws.zip (xs.map k) := by
    rw [List.zip_map_right]; rfl
  have hz := rds_zip h3
  have m1 : (ws.zip (xs.map k)).map (·.1) = ws := zip_map1 (by simpa using hlen)
  have m2 : (ws.zip (xs.map k)).map (·.2) = xs.map k := zip_map2 (by simpa using hlen)
  have so : (((ws.zip (xs.map k)).mergeSort (PySem.W.dataLe false fun b => b.2)).map (·.1)) = ((ws.zip xs).mergeSort (fun b c => le b.2 c.2)).map (·.1) := by
    rw [← e1]
    have := mergeSort_map_ (f := fun b : V × α => (b.1, k b.2)) (le := PySem.W.dataLe false fun b : V × PyData => b.2) (ws.zip xs)
    rw [← this, List.map_map, ← hle]
    rfl
  have so2 : ((ws.zip xs).mergeSort (fun b c => le b.2 c.2)).map (fun b => e b.2) = (xs.mergeSort le).map e := by
    have := mergeSort_map_ (f := fun b : V × α => b.2) (le := le) (ws.zip xs)
    rw [zip_map2 hlen] at this
    rw [← this, List.map_map]
    rfl
  refine ⟨a, ws.zip (xs.map k), rfl, by rw [m1]; exact h2, fun b hb => ?_, by rw [m2]; exact hal, by rw [m2]; exact hsk, fun b hb => ?_, fun q hq => ?_⟩
  · rw [← e1] at hb
    obtain ⟨c, hc, rfl⟩ := List.mem_map.mp hb
    have hm := (List.of_mem_zip hc).2
    obtain ⟨z1, z2, _⟩ := hk c.2 hm
    have := dp_of (hz c hc) (by rw [z1]; exact z2)
    rw [z1] at this
    exact this
  · rw [← e1] at hb
    obtain ⟨c, hc, rfl⟩ := List.mem_map.mp hb
    exact (hk c.2 (List.of_mem_zip hc).2).2.2
  · rw [so]
    refine p r _ _ (Grow.lay hq) (rs.lay hq) (.lst upd_same (rs.out hq) (fun z => xo _ z hq) ?_)
    rw [← so2]
    exact (Grow.lay hq).rds (zip_rds fun b hb => hz b ((List.mergeSort_perm ..).mem_iff.mp hb))
theorem oc_sort : OpC K cn (rSortD K) (fOne fSort) := oc_one fun W Ex ro st H s x d Q xo rs rx p => by
  unfold fSort at p
  cases e2 : lsOf st d with
  | none => rw [e2] at p; exact p.elim
  | some es =>
    rw [e2] at p
    simp only [Option.bind] at p
    cases e3 : sortL es with
    | none => rw [e3] at p; exact p.elim
    | some fs =>
      rw [e3] at p
      unfold sortL at e3
      cases e4 : intsD es with
      | some ns =>
        rw [e4] at e3
        cases e3
        rw [ints_rel e4] at e2
        exact sort_gen (k := fun n => .int n) xo rs rx e2 (fun n _ => ⟨rfl, rfl, by simp [PyData.depth]⟩) (PySem.W.AllAlike.of fun _ _ => by simp [PySem.W.alike]) (PySem.W.Sortable.others fun _ => ⟨by simp, fun _ => by simp⟩) (PySem.W.dataLe_int fun n => n) p
      | none =>
        rw [e4] at e3
        simp only at e3
        cases e5 : rowsI es with
        | none => rw [e5] at e3; cases e3
        | some rs' =>
          rw [e5] at e3
          simp only at e3
          by_cases hz : rs'.all (fun r => decide (0 < r.length)) = true
          · rw [if_pos hz] at e3
            cases e3
            rw [rowsI_of e5] at e2
            have hne : ∀ r ∈ rs', 0 < r.length := fun r hr => of_decide_eq_true (List.all_eq_true.mp hz r hr)
            refine sort_gen (k := fun r => .tuple (r.map PyData.int)) xo rs rx e2 (fun n hn => ⟨by simp only [rowD, toP, toPs_ints], by simp only [PyData.canLay0]; exact canLay_ints n, ?_⟩) (PySem.W.AllAlike.of fun a b => by simp only [PySem.W.alike]; exact PySem.W.alike_ints a b) (.inl fun d hd => ?_) rfl p
            · simp only [PyData.depth, PySem.W.depth_ints]; decide
            · obtain ⟨r, hr, rfl⟩ := List.mem_map.mp hd
              have := hne r hr
              cases r with
              | nil => simp at this
              | cons x xs => exact ⟨_, _, rfl⟩
          · rw [if_neg hz] at e3; cases e3
end
section
variable {X : Cx} {cn : CN} {W : WX} {cl : Bool} {pos p p2 p3 : Pos} {a b : Expr} {ma mb : ME}
theorem x_sorted (hu : X.A.units + 64 < cLine) (hg : Gl X "sorted") (hm : X.mg "sorted" = none) (ha : SndE X cn W cl a ma) (hs : starEach [a] X.env = (false, eval a X.env) :: starEach [] X.env := by rfl) : SndE X cn W cl (.Call (.Name "sorted" p) [a] [] pos) (eUn fSort ma) := se_1 (se_callB (cr_sortD hu) oc_sort hg hm blt_sorted (sa_cons ha sa_nil hs) (by decide) (by decide) hs)
end
/-! ## sorted(xs, key=lambda at: (account[at][1], at)) as a value -/
def dayD : D → Option Int
  | .tup es => (match (es[1]? : Option D) with
    | some (.int d) => some d
    | _ => none)
  | _ => none
def keysD (rows : List D) : List D → Option (List (Int × Nat))
  | [] => some []
  | .int i :: ds => if 0 ≤ i then (match rows[i.toNat]?.bind dayD, keysD rows ds with
    | some d, some ks => some ((d, i.toNat) :: ks)
    | _, _ => none) else none
  | _ => none
def fSortLam (rows : List D) (d : D) (st : Sto) : R D := match (lsOf st d).bind (keysD rows) with
  | some ks => .ok (.lst ((ks.mergeSort leK).map fun k => .int (k.2 : Int))) st
  | none => .bad
def eSortLam (i : Nat) (ma : ME) : ME := fun env st => (ma env st).bind fun d st1 => match env[i]? with
  | some (.val (.tup rows)) => fSortLam rows d st1
  | _ => .bad
theorem keysD_ok {rows : List D} : ∀ {ds : List D} {ks : List (Int × Nat)}, keysD rows ds = some ks → ds = ks.map (fun k => D.int (k.2 : Int)) ∧ ∀ k ∈ ks, ∃ es, rows[k.2]? = some (.tup es) ∧ es[1]? = some (.int k.1)
  | [], _, h => by cases h; exact ⟨rfl, fun _ hk => by cases hk⟩
  | .int i :: ds, ks, h => by
    unfold keysD at h
    by_cases hi : 0 ≤ i
    · rw [if_pos hi] at h
      cases e1 : rows[i.toNat]?.bind dayD with
      | none => rw [e1] at h; cases h
      | some d =>
        cases e2 : keysD rows ds with
        | none => rw [e1, e2] at h; cases h
        | some ks' =>
          rw [e1, e2] at h
          cases h
          obtain ⟨h1, h2⟩ := keysD_ok e2
          refine ⟨by rw [h1]; simp only [List.map_cons, Int.toNat_of_nonneg hi], fun k hk => ?_⟩
          rcases List.mem_cons.mp hk with rfl | hk
          · cases e3 : rows[i.toNat]? with
            | none => rw [e3] at e1; cases e1
            | some x =>
              rw [e3] at e1
              simp only [Option.bind] at e1
              cases x with
              | tup es =>
                refine ⟨es, rfl, ?_⟩
                simp only [dayD] at e1
                split at e1
                · rename_i e4; cases e1; exact e4
                · cases e1
              | _ => cases e1
          · exact h2 k hk
    · rw [if_neg hi] at h; cases h
  | .non :: _, _, h => by cases h
  | .bl _ :: _, _, h => by cases h
  | .str _ :: _, _, h => by cases h
  | .tup _ :: _, _, h => by cases h
  | .lst _ :: _, _, h => by cases h
  | .dK _ _ :: _, _, h => by cases h
  | .dT _ _ :: _, _, h => by cases h
  | .obj _ :: _, _, h => by cases h
  | .err _ :: _, _, h => by cases h
  | .scr _ :: _, _, h => by cases h
section
variable {K : PySem.W.Frag} {cn : CN} {Ex : Addr → Prop} {r : List Addr} {H H2 : Hp} {st : Sto}
theorem grow_tbl (rs : RelSt K cn r st H) (e : LamX.ExtN H H2) (g : TblsGo H H2) (t : LamX.Tabs (cn.T K) H2) : Grow r H r H2 ∧ RelSt K cn r st H2 := by
  have gr : Grow r H r H2 := ⟨⟨[], by simp⟩, fun a h => .inl h, fun a o h _ ht => e a o h ht, fun a ps h _ => g a ps h⟩
  refine ⟨gr, rs.nd, rs.len, fun n mo a h1 h2 => (rs.ok n mo a h1 h2).kept gr.kept ?_, t⟩
  obtain ⟨o, z1, z2⟩ := rs.plain (List.mem_of_getElem? h2)
  rw [z1]
  exact e a o z1 fun ps z => by rw [z] at z2; exact z2
theorem rows_at {rows : List D} {vs : List V} {ks : List (Int × Nat)} (rd : RDs K r H Ex vs rows) (h : ∀ k ∈ ks, ∃ es, rows[k.2]? = some (.tup es) ∧ es[1]? = some (.int k.1)) : RowsAt K H vs ks := fun k hk => by
  obtain ⟨es, h1, h2⟩ := h k hk
  obtain ⟨v, h3, h4⟩ := rd.get h1
  obtain ⟨b, ws, rfl, h5, h6⟩ := tu_at h4
  obtain ⟨w, h7, h8⟩ := h6.get h2
  cases h8
  exact ⟨b, ws, h3, h5, h7⟩
end
section
variable {X : Cx} {cn : CN} {W : WX} {cl : Bool} {pos p pa lpos kp q1 q2 q3 q4 q5 q6 q7 : Pos} {e : Expr} {ma : ME} {f x y : Str} {i k k2 : Nat} {scope : Scope}
theorem se_sortLam {j : Nat} (c : Ctx X W j) (hg : Gl X "sorted") (hmg : X.mg "sorted" = none) (he : SndE X cn W true e ma) (TB : LamX.TabB X.base X.mg (codeAd X.K f) (tabAd X.K f)) (hcode : X.env.code = .ref (codeAd X.K f) := by rfl) (hT : cn.T X.K = [(tabAd X.K f, X.env.qual ++ "<lambda>")] := by rfl)
    (hN : X.N[i]? = some x := by rfl) (hsc : lamScB X.env.scope scope x y = true := by kernel_rfl) (hdef : defaultsOf (lamA y pa) X.env = ([], []) := by rfl)
    (hbd : ∀ (q : Str) (clo : List (Str × Addr)) (pm c' ctv v : Value), bindArgs (PySem.W.kla_fn "<lambda>" q (lamA y pa) (lamBody x y k k2 q1 q2 q3 q4 q5 q6 q7) scope clo pm c' ctv) ⟨[v], []⟩ = pure [(y, v)] := by intro _ _ _ _ _ _; rfl)
    (dx : (x == ("__debug__" : Str)) = false := by decide) (dy : (y == ("__debug__" : Str)) = false := by decide) (dcx : (x == ("__classdict__" : Str)) = false := by decide) (hs : backTo pos (starEach [e] X.env) = (false, eval e X.env) :: backTo pos (starEach [] X.env) := by rfl) (hpl : (backTo pos (starEach [e] X.env)).any (·.1) = false := by rfl) :
    SndE X cn W true (.Call (.Name "sorted" p) [e] [⟨some "key", .Lambda (lamA y pa) (lamBody x y k k2 q1 q2 q3 q4 q5 q6 q7) scope lpos, kp⟩] pos) (eSortLam i ma) :=
  pe_imp (pe_sortLam (T := cn.T X.K) hg hmg he TB hcode (by rw [hT]; exact List.mem_singleton.mpr rfl) (fun q hq _ => by rw [hT] at hq; rw [List.mem_singleton.mp hq]) hN hsc (by have := c.room.dp; show X.A.depth < _; omega) c.units hdef hbd dx dy dcx hs hpl) fun s H Q ⟨r, env, st, Ex, at_, p⟩ =>
  tM_at at_ ((PostE.bind p).mono fun v H1 ⟨r1, d, st1, g, rs, rd, p1⟩ => by
    cases e1 : env[i]? with
    | none => rw [e1] at p1; exact p1.elim
    | some sv =>
      rw [e1] at p1
      cases sv with
      | val d2 =>
        cases d2 with
        | tup rows =>
          simp only [fSortLam] at p1
          cases e2 : lsOf st1 d with
          | none => rw [e2] at p1; exact p1.elim
          | some ds =>
            rw [e2] at p1
            simp only [Option.bind] at p1
            cases e3 : keysD rows ds with
            | none => rw [e3] at p1; exact p1.elim
            | some ks =>
              rw [e3] at p1
              obtain ⟨k1, k2⟩ := keysD_ok e3
              obtain ⟨pp, ws, rfl, h2, h3⟩ := ls_at rs rd e2
              obtain ⟨va, h4, h5⟩ := (at_.grow g rs).eo.val i _ e1
              obtain ⟨a, vs, rfl, h6, h7⟩ := tu_at h5
              have ew : ws = ks.map kInt := by
                rw [k1] at h3
                have e0 : (ks.map fun k => D.int (k.2 : Int)) = (ks.map fun k => (k.2 : Int)).map D.int := by rw [List.map_map]; rfl
                rw [e0] at h3
                rw [h3.ints, List.map_map]; rfl
              rw [ew] at h2
              refine ⟨pp, a, vs, ks, rfl, h2, h4, h6, rows_at h7 k2, rs.tb, fun H2 q ex tg ht hq => ?_⟩
              obtain ⟨g2, rs2⟩ := grow_tbl rs ex tg ht
              refine p1 r1 _ _ (g2.trans (Grow.lay hq)) (rs2.lay hq) (.lst upd_same (rs2.out hq) (fun z => ((at_.grow g rs).grow g2 rs2).xo _ z hq) ?_)
              have e0 : ((ks.mergeSort leK).map fun k => D.int (k.2 : Int)) = ((ks.mergeSort leK).map fun k => (k.2 : Int)).map D.int := by rw [List.map_map]; rfl
              have e9 : (ks.mergeSort leK).map kInt = ((ks.mergeSort leK).map fun k => (k.2 : Int)).map V.int := by rw [List.map_map]; rfl
              rw [e0, e9]
              exact rds_ints
        | _ => exact p1.elim
      | _ => exact p1.elim)
end
end Fx

namespace Fx
open PySem PySem.Spec PySem.Calls PyProof.Rows L2

/-! ## set(xs) of a list, whatever the loop over it does -/
abbrev freshSet (w : World) : Obj := { cls := .type "set", dict := none, data := .set #[] 0 (.fresh 0 0 (!w.params.followText "set-order")) }
section
variable {P : Program} {w : World} {A : Around} {E : Value → Shared → Prop} {s : Shared}
theorem set_of_list {l : Addr} {items : Array Value} {Fn : Heap → Prop} {Q : Value → Shared → Prop} (hh : A.handled = none) (hl : s.heap.IsList l items)
    (go : ∀ (A' : Around) (s1 : Shared) (R : Result → Shared → Prop), A'.handled = none → A'.units ≤ A.units + 3 → s1.heap.get? s.heap.objs.size = some (freshSet w) → (∀ b o, s.heap.get? b = some o → s1.heap.get? b = some o) → s1.heap.IsListIter (s.heap.objs.size + 1) l 0 → s1.heap.IsList l items →
      (∀ s2 : Shared, (∀ b o, b ≠ s.heap.objs.size → b ≠ s.heap.objs.size + 1 → s1.heap.get? b = some o → s2.heap.get? b = some o) → s2.gens = s1.gens → s2.drawn = s1.drawn → s2.os = s1.os → Fn s2.heap → R (.ok (.ret .none)) s2) →
      codeAny (model P w) A' (.builtin "set.update.loop" ⟨[.ref s.heap.objs.size, .ref (s.heap.objs.size + 1)], []⟩) R s1)
    (h : ∀ (g : Heap) (tk : Nat), Fn g → (∀ b o, s.heap.get? b = some o → g.get? b = some o) → Q (.ref s.heap.objs.size) { s with heap := g, toks := tk }) :
    wpAny (model P w) A (call (.type "set") [.ref l]) Q E s := by
  obtain ⟨_, _, mro_⟩ := F.called_set.mro
  have made_ := F.called_set.made
  have sub_ := F.called_set.sub
  have nty_ := F.called_set.notType
  have can_ := F.called_set.canCreate
  have chk_ := F.typeCall_set_1 (.ref l)
  refine wpAny_call (codeAny_of_tree (wpAny_pure ⟨Code.quiet_builtin _ (by decide +kernel), codeAny_builtin F.entry_type_call ?_⟩))
  rw [Around.under_plain (weight_type_call_type "set" [.ref l] []) rfl]
  repeat (any_goals (first | assumption | wp_step))
  generalize hn : s.heap.objs.size = n at go h ⊢
  refine codeAny_mono (code_set_led1 (.ref l) (E := E) (Q₁ := fun v t => v = .ref n ∧ t = { s with heap := s.heap.push (freshSet w) }) ⟨by rw [hn], rfl⟩) fun res t hres => ?_
  match res, hres with
  | .error _, z => exact z
  | .ok .next, z => exact z.elim
  | .ok .brk, z => exact z.elim
  | .ok .cont, z => exact z.elim
  | .ok (.ret v), ⟨e1, e2⟩ =>
    subst e1; subst e2
    have at0 : (s.heap.push (freshSet w)).get? n = some (freshSet w) := by rw [← hn]; exact Heap.get?_push_size _ rfl
    have ty0 : Shared.TypeIs { s with heap := s.heap.push (freshSet w) } (.ref n) "set" := ⟨_, at0, rfl⟩
    have look_ := F.called_set.init.lookup
    have bind_ := F.called_set.init.bind (.ref n)
    repeat (any_goals (first | assumption | wp_step))
    refine codeAny_mono (codeAny_call_builtin (R := wants (fun v t => v = .none ∧ ∃ g tk, t = { s with heap := g, toks := tk } ∧ Fn g ∧ ∀ b o, s.heap.get? b = some o → g.get? b = some o) E) F.called_set.init.plain F.entry_set_init (check_set_init_1 ty0 ?_)) fun res2 t2 hres2 => ?_
    · obtain ⟨⟨k1, k2, k3, k4⟩, ol, kc, nl, kd⟩ := hl
      simp only at kc kd
      subst kc; subst kd
      have at1 : (s.heap.push (freshSet w)).get? l = some { cls := .type "list", dict := k2, data := .seq items nl, slots := k4 } := Heap.get?_push_of_some _ ol
      have sub1 := F.sub_list_set
      have sub2 := F.sub_list_frozenset
      have ndc : (Value.type "list" == Value.type "dict") = false := by decide
      have il : (s.heap.push (freshSet w)).IsList l items := ⟨_, at1, rfl, nl, rfl⟩
      unfold Builtin.«set.__init__» noKeywords Builtin.Frozenset.updateFrom
      generalize hPI : pyIter = PI
      wp_walk
      subst hPI
      refine wpAny_pyIter_list il (wpAny_bind (wpAny_runValue ?_))
      have sz1 : (s.heap.push (freshSet w)).objs.size = n + 1 := by rw [Heap.size_push, hn]
      have keep1 : ∀ b o, s.heap.get? b = some o → ((s.heap.push (freshSet w)).push { cls := .type "list_iterator", data := .fields #[.ref l, .int 0 0] }).get? b = some o := fun b o e => Heap.get?_push_of_some _ (Heap.get?_push_of_some _ e)
      rw [sz1]
      refine go _ _ _ (by simp [hh]) (by simp) (Heap.get?_push_of_some _ at0) keep1 ⟨_, by rw [← sz1]; exact Heap.get?_push_size _ rfl, rfl, rfl⟩ (il.push _) fun s2 kp eg ed eo fin => ?_
      obtain ⟨g2, gens2, dr2, tk2, os2⟩ := s2
      simp only at eg ed eo
      subst eg; subst ed; subst eo
      refine wpAny_pure ?_
      show wpAny _ _ (ret Value.none) _ _ _
      refine wpAny_pure ⟨rfl, g2, tk2, rfl, fin, fun b o e => ?_⟩
      have hb := Heap.lt_size e
      rw [hn] at hb
      exact kp b o (Nat.ne_of_lt hb) (Nat.ne_of_lt (Nat.lt_succ_of_lt hb)) (keep1 b o e)
    · match res2, hres2 with
      | .error _, z => exact z
      | .ok .next, z => exact z.elim
      | .ok .brk, z => exact z.elim
      | .ok .cont, z => exact z.elim
      | .ok (.ret v), ⟨e1, g, tk, e2, fin, kp⟩ =>
        subst e1; subst e2
        repeat (any_goals (first | assumption | wp_step))
        exact h g tk fin kp
theorem set_ints {l : Addr} {items : Array Value} (ns : List Int) {Q : Value → Shared → Prop} (hh : A.handled = none) (hl : s.heap.IsList l items) (hit : IntsAre items.toList ns) (hb : ns.length + 1 < scanBound)
    (h : ∀ (g : Heap) (tk c : Nat), SetR w g s.heap.objs.size (fun j => decide (j ∈ ns)) c → (∀ b o, s.heap.get? b = some o → g.get? b = some o) → Q (.ref s.heap.objs.size) { s with heap := g, toks := tk }) :
    wpAny (model P w) A (call (.type "set") [.ref l]) Q E s := by
  have hsz : items.size = ns.length := by
    have := IntsAre.length hit
    rwa [Array.length_toList] at this
  refine set_of_list (Fn := fun g => ∃ c, SetR w g s.heap.objs.size (fun j => decide (j ∈ ns)) c) hh hl (fun A' s1 R ha hu hf kp hi hl1 k => ?_) fun g tk ⟨c, R⟩ kp => h g tk c R kp
  have hlt : l < s.heap.objs.size := by
    obtain ⟨o, ho, _⟩ := hl
    exact Heap.lt_size ho
  have val : ∀ (i : Nat) (v : Value), items[i]? = some v → ∃ k t, ns[i]? = some k ∧ v = .int k t := fun i v hv => by
    have hi : i < ns.length := by rw [← hsz]; exact (Array.getElem?_eq_some_iff.mp hv).1
    obtain ⟨t, e⟩ := IntsAre.int_at hit i v (by rw [Array.getElem?_toList]; exact hv)
    rw [List.getD_eq_getElem?_getD, List.getElem?_eq_getElem hi] at e
    exact ⟨ns[i], t, List.getElem?_eq_getElem hi, e⟩
  have W := (Walks.list (prog := P) (w := w) (A := A'.in1) (by simpa using ha) (s.heap.objs.size + 1) l (Nat.ne_of_lt (Nat.lt_succ_of_lt hlt)) items).toS
  refine set_update_ints W s.heap.objs.size (by simp only [List.mem_cons, List.mem_singleton, List.not_mem_nil, or_false, not_or]; exact ⟨Nat.ne_of_lt (Nat.lt_succ_self _), Nat.ne_of_gt hlt⟩) ns hsz hb val (items.size - 0) 0 s1 (by omega) (Nat.zero_le _) ⟨hi, hl1⟩ ⟨0, Nat.le_refl _, setR_new_at hf⟩ fun s' c hm _ hS => ?_
  refine k s' (fun b o h1 h2 e => hm.heap b o (by simp only [List.mem_cons, List.mem_singleton, List.not_mem_nil, or_false, not_or]; exact ⟨h1, h2⟩) e) hm.gens hm.drawn hm.os ⟨c, hS⟩
end
end Fx

namespace Fx
open PySem PySem.Spec PySem.Calls PyProof.Rows L2

/-! ## sorted(set), of any number of members -/
theorem each_ex {β : Type} {R : Value → β → Prop} : ∀ {vs : List Value}, (∀ v ∈ vs, ∃ b, R v b) → ∃ bs, PySem.W.EachIs R vs bs
  | [], _ => ⟨[], .nil⟩
  | v :: vs, h => by
    obtain ⟨b, hb⟩ := h v (List.mem_cons_self ..)
    obtain ⟨bs, hs⟩ := each_ex (R := R) (vs := vs) fun u hu => h u (List.mem_cons_of_mem _ hu)
    exact ⟨b :: bs, .cons hb hs⟩
theorem each_mem {β : Type} {R : Value → β → Prop} : ∀ {vs : List Value} {bs : List β}, PySem.W.EachIs R vs bs → (∀ b ∈ bs, ∃ v ∈ vs, R v b)
  | _, _, .nil => fun b hb => by cases hb
  | _, _, .cons (a := v) h hs => fun b hb => by
    rcases List.mem_cons.mp hb with rfl | hb
    · exact ⟨v, List.mem_cons_self .., h⟩
    · obtain ⟨u, h1, h2⟩ := each_mem hs b hb
      exact ⟨u, List.mem_cons_of_mem _ h1, h2⟩
section
variable {P : Program} {w : World} {A : Around} {E : Value → Shared → Prop} {s : Shared}
theorem sorted_setG {β : Type} {a : Addr} {es : Array (Int × Value)} {ep : Nat} {t : SetTable} (enc : β → PyData) (R : Value → β → Prop) {Q : Value → Shared → Prop} (hh : A.handled = none) (hu : A.units + 64 < cLine) (ha : SetAt s.heap a es ep t) (hf : t.fits es.size = true) (hsz : es.size < scanBound) (ri : Ris t.place.toList) (hl : w.params.followText "set-order" = true ∨ t.led = true)
    (hb : ∀ v ∈ es.toList.map (·.2), ∃ b, R v b) (hr : ∀ v b, R v b → ∃ as, Reads s.heap v (enc b) as ∧ ∀ x ∈ as, ∃ o, s.heap.get? x = some o) (hal : ∀ b c, PySem.W.alike (enc b) (enc c) = true) (hsk : ∀ bs : List β, PySem.W.Sortable (bs.map enc)) (hd : ∀ b, (enc b).depth ≤ 40)
    (hQ : ∀ s' p (out vs : List Value) (c : Nat) (bs : List β), (∀ b o, s.heap.get? b = some o → s'.heap.get? b = some o) → s'.gens = s.gens → s'.os = s.os → s.heap.objs.size ≤ p → s'.heap.get? p = some (seqObj "list" out.toArray c) → vs.Perm (es.toList.map (·.2)) → PySem.W.EachIs R vs bs → PySem.W.EachIs R out (bs.mergeSort (PySem.W.dataLe false enc)) → Q (.ref p) s') :
    wpAny (model P w) A (call (.builtin "sorted") [.ref a]) Q E s := by
  refine Calls.call_function_entry kind_sorted plain_sorted entry_sorted (args_sorted1 _) ?_
  unfold Builtin.«sorted»
  refine wpAny_bind (m := checkCount "sorted" 1 1 _) (wpAny_pure (wpAny_bind (collect_set (A := A.in1) hh ha hf hsz ri hl fun s1 vs kp hz eg eo pm => ?_)))
  obtain ⟨bs, hbs⟩ := each_ex fun v hv => hb v (pm.mem_iff.mp hv)
  have len1 : vs.length = es.size := by rw [pm.length_eq, List.length_map, Array.length_toList]
  have line1 : vs.length ≤ sizeLine := by rw [len1, sizeLine_eq]; unfold scanBound at hsz; omega
  refine wpAny_bind (wpAny_newList ?_ line1)
  have at1 : (s1.heap.push (seqObj "list" vs.toArray 0)).get? s1.heap.objs.size = some (seqObj "list" vs.toArray 0) := Heap.get?_push_size _ rfl
  have each2 : PySem.W.EachIs (fun v b => ∃ as, Reads (s1.heap.push (seqObj "list" vs.toArray 0)) v (enc b) as ∧ s1.heap.objs.size ∉ as) vs bs := hbs.mono fun v b h => by
    obtain ⟨as, h1, h2⟩ := hr v b h
    refine ⟨as, PyProof.Rows.Reads.keeps (fun b o e => Heap.get?_push_of_some _ (kp b o e)) h1, fun hm => ?_⟩
    obtain ⟨o, ho⟩ := h2 _ hm
    exact Nat.lt_irrefl _ (Heap.lt_size (kp _ _ ho))
  refine wpAny_bind (wpAny_holding (PySem.W.list_sort_data (enc := enc) (s := { s1 with heap := s1.heap.push (seqObj "list" vs.toArray 0) }) at1 hbs each2 (fun x hx y hy => ?_) (hsk bs) (by rw [← hbs.length]; exact line1) (fun b _ => ?_) fun out hlen eout => ?_))
  · obtain ⟨b, _, rfl⟩ := List.mem_map.mp hx
    obtain ⟨c, _, rfl⟩ := List.mem_map.mp hy
    exact hal b c
  · have h1 := hd b
    have h2 : A.in1.units = A.units + 1 := rfl
    omega
  · obtain ⟨c, hc⟩ := sortedHeap_at (vs := vs) (out := List.toArray out) at1
    refine wpAny_pure ⟨_, rfl, hQ _ s1.heap.objs.size out vs c bs (fun b u e => ?_) eg eo hz hc pm hbs eout⟩
    have q := kp b u e
    have lt := Heap.lt_size q
    show (sortedHeap (s1.heap.push (seqObj "list" vs.toArray 0)) s1.heap.objs.size vs (List.toArray out)).get? b = some u
    rw [sortedHeap_old (Nat.ne_of_lt lt) (by rw [size_push']; exact Nat.lt_succ_of_lt lt)]
    exact Heap.get?_push_of_some _ q
end
/-! ## sorted(set(xs)) of ints -/
def insS (x : Int) : List Int → List Int
  | [] => [x]
  | y :: ys => if x < y then x :: y :: ys else if x = y then y :: ys else y :: insS x ys
def sortSet (ns : List Int) : List Int := ns.foldr insS []
theorem insS_mem {x k : Int} : ∀ {ys : List Int}, k ∈ insS x ys ↔ k = x ∨ k ∈ ys
  | [] => by simp [insS]
  | y :: ys => by
    unfold insS
    split
    · simp
    · split
      · rename_i h; subst h; simp
      · simp only [List.mem_cons, insS_mem (ys := ys)]
        constructor
        · rintro (h | h | h)
          · exact .inr (.inl h)
          · exact .inl h
          · exact .inr (.inr h)
        · rintro (h | h | h)
          · exact .inr (.inl h)
          · exact .inl h
          · exact .inr (.inr h)
theorem insS_up {x : Int} : ∀ {ys : List Int}, ys.Pairwise (· < ·) → (insS x ys).Pairwise (· < ·)
  | [], _ => by simp [insS]
  | y :: ys, h => by
    obtain ⟨h1, h2⟩ := List.pairwise_cons.mp h
    unfold insS
    split
    · rename_i hx
      refine List.pairwise_cons.mpr ⟨fun z hz => ?_, h⟩
      rcases List.mem_cons.mp hz with rfl | hz
      · exact hx
      · exact Int.lt_trans hx (h1 z hz)
    · split
      · exact h
      · refine List.pairwise_cons.mpr ⟨fun z hz => ?_, insS_up h2⟩
        rcases insS_mem.mp hz with rfl | hz
        · omega
        · exact h1 z hz
theorem sortSet_mem {k : Int} : ∀ {ns : List Int}, k ∈ sortSet ns ↔ k ∈ ns
  | [] => by simp [sortSet]
  | n :: ns => by
    show k ∈ insS n (sortSet ns) ↔ _
    rw [insS_mem, sortSet_mem (ns := ns), List.mem_cons]
theorem sortSet_up : ∀ ns : List Int, (sortSet ns).Pairwise (· < ·)
  | [] => List.Pairwise.nil
  | n :: ns => insS_up (sortSet_up ns)
theorem up_eq : ∀ {xs ys : List Int}, xs.Pairwise (· < ·) → ys.Pairwise (· < ·) → (∀ k, k ∈ xs ↔ k ∈ ys) → xs = ys
  | [], [], _, _, _ => rfl
  | [], y :: ys, _, _, h => by have := (h y).mpr (List.mem_cons_self ..); cases this
  | x :: xs, [], _, _, h => by have := (h x).mp (List.mem_cons_self ..); cases this
  | x :: xs, y :: ys, h1, h2, h => by
    obtain ⟨a1, a2⟩ := List.pairwise_cons.mp h1
    obtain ⟨b1, b2⟩ := List.pairwise_cons.mp h2
    have e : x = y := by
      have hx := (h x).mp (List.mem_cons_self ..)
      have hy := (h y).mpr (List.mem_cons_self ..)
      rcases List.mem_cons.mp hx with e | hx
      · exact e
      · rcases List.mem_cons.mp hy with e | hy
        · exact e.symm
        · have z1 := b1 x hx
          have z2 := a1 y hy
          omega
    subst e
    refine congrArg (x :: ·) (up_eq a2 b2 fun k => ⟨fun hk => ?_, fun hk => ?_⟩)
    · rcases List.mem_cons.mp ((h k).mp (List.mem_cons_of_mem _ hk)) with e | z
      · have := a1 k hk; omega
      · exact z
    · rcases List.mem_cons.mp ((h k).mpr (List.mem_cons_of_mem _ hk)) with e | z
      · have := b1 k hk; omega
      · exact z
def rSetI (K : PySem.W.Frag) (w : World) : List V → Hp → VK → Prop := fun xs H Q => ∃ (l : Addr) (ns : List Int), xs = [.ref l] ∧ SqL K H l (ns.map V.int) ∧ ns.length + 1 < scanBound ∧ ∀ p c, H p = none → Q (.ref p) (upd H p (SetO w p (fun j => decide (j ∈ ns)) c))
theorem cr_setI {X : Cx} (hc : X.calm = true) : CallR X (.type "set") (rSetI X.K X.w) := by
  intro pins s σ H xs us Q I r h
  obtain ⟨l, ns, rfl, hl, hb, q⟩ := h
  rw [Vals.ref1 r]
  obtain ⟨its, rv, pl, _⟩ := I.list hl
  refine set_ints (P := X.prog) (w := X.w) ns (I.ok.hd hc) pl.isList (by simpa using rv.ints) hb fun g tk c R kp => ?_
  exact ⟨.ref _, upd H s.heap.objs.size (SetO X.w s.heap.objs.size (fun j => decide (j ∈ ns)) c), I.laid (t' := tk) kp (Nat.le_refl _) (setO_new R), rfl, q _ c (I.hok.fresh (Nat.le_refl _))⟩
def rSortedI (w : World) : List V → Hp → VK → Prop := fun vs H Q => ∃ (a : Addr) (S : Int → Bool) (n : Nat), vs = [V.ref a] ∧ H a = some (SetO w a S n) ∧ ∀ (ns : List Int) (p : Addr), ns.Pairwise (· < ·) → (∀ k : Int, k ∈ ns ↔ S k = true) → H p = none → Q (.ref p) (upd H p (.lst (ns.map V.int)))
theorem ints_vals : ∀ {ns : List Int} {us : List Value}, PySem.W.EachIs (fun v (n : Int) => ∃ t, v = .int n t) us ns → Vals (ns.map V.int) us
  | _, _, .nil => .nil
  | _, _, .cons h hs => .cons h (ints_vals hs)
theorem ms_le (l : List Int) : (l.mergeSort fun a b => decide (a ≤ b)).Pairwise (· ≤ ·) :=
  (List.pairwise_mergeSort (le := fun a b : Int => decide (a ≤ b)) (fun a b c h1 h2 => by simp at h1 h2 ⊢; omega) (fun a b => by simp; omega) l).imp (by simp)
theorem cr_sortedI {X : Cx} (hc : X.calm = true) (hu : X.A.units + 64 < cLine) : CallR X (.builtin "sorted") (rSortedI X.w) := by
  intro pins s σ H vs us Q I r h
  obtain ⟨a, S, n, rfl, ha, q⟩ := h
  obtain ⟨o, es, ep, t, ho, hex, hd, g, nd, hm, hb, hf, hn, ri, hl⟩ := setO_get I ha
  rw [Vals.ref1 r]
  refine sorted_setG (fun n : Int => .int n) (fun v n => ∃ t, v = .int n t) (I.ok.hd hc) hu ⟨o, ho, hex.1, hd⟩ hf hb ri hl (fun v hv => ?_) (fun v b ⟨t, e⟩ => ⟨[], by subst e; exact .int b t, fun x hx => by cases hx⟩) (fun _ _ => by simp [PySem.W.alike]) (fun bs => PySem.W.Sortable.others fun _ => ⟨by simp, fun _ => by simp⟩) (fun _ => by simp [PyData.depth])
    fun s' p out vs c bs kp eg eo hp hD pm e1 e2 => ?_
  · obtain ⟨e, he, rfl⟩ := List.mem_map.mp hv
    obtain ⟨k, tk, h1, _⟩ := g e he
    exact ⟨k, tk, h1⟩
  · have hdl : PySem.W.dataLe false (fun n : Int => PyData.int n) = fun a b => decide (a ≤ b) := PySem.W.dataLe_int fun n => n
    rw [hdl] at e2
    generalize hms : (bs.mergeSort fun a b => decide (a ≤ b)) = ms at e2
    have pms : ms.Perm bs := by rw [← hms]; exact List.mergeSort_perm ..
    have hz : (ms.map V.int).length ≤ sizeLine := by
      rw [List.length_map, pms.length_eq, ← e1.length, pm.length_eq, List.length_map, Array.length_toList, sizeLine_eq]
      unfold scanBound at hb; omega
    have hpn : H p = none := I.hok.fresh hp
    have J : Inv X pins σ (upd H p (.lst (ms.map V.int))) { s with heap := s'.heap, gens := s'.gens, drawn := s'.drawn, toks := s'.toks } :=
      I.call (ch := []) (Un.laid kp hp hpn) (I.hok.laid kp hp ⟨hz, out, c, ints_vals e2, hD⟩) (by rw [eg]; exact I.bare) (fun _ z => nomatch z)
    have es' : s' = { s with heap := s'.heap, gens := s'.gens, drawn := s'.drawn, toks := s'.toks } := by
      cases s'; cases s; cases eo; rfl
    -- what the values are
    have hbs : bs = vs.map Builtin.Re.reRawOf := by
      have : ∀ {vs : List Value} {bs : List Int}, PySem.W.EachIs (fun v (n : Int) => ∃ t, v = .int n t) vs bs → bs = vs.map Builtin.Re.reRawOf := by
        intro vs bs h
        induction h with
        | nil => rfl
        | cons h _ ih => obtain ⟨t, rfl⟩ := h; rw [List.map_cons, ← ih]; rfl
      exact this e1
    have pk : bs.Perm (es.toList.map keyOf) := by
      rw [hbs]
      have q := pm.map Builtin.Re.reRawOf
      rw [List.map_map] at q
      exact q
    have pmk := pms.trans pk
    rw [es']
    refine ⟨.ref p, _, J, rfl, q ms p (lt_of_le_nodup ms (by rw [← hms]; exact ms_le bs) (pmk.nodup_iff.mpr nd)) (fun k => by rw [pmk.mem_iff, ← hm k]) hpn⟩
def fSortSet (d : D) (st : Sto) : R D := match (lsOf st d).bind intsD with
  | some ns => if ns.length ≤ 4000 then .ok (.lst ((sortSet ns).map D.int)) st else .bad
  | none => .bad
section
variable {X : Cx} {cn : CN} {W : WX} {cl : Bool} {pos p p2 pos2 : Pos} {a : Expr} {ma : ME}
theorem x_sortSet (hc : X.calm = true) (hu : X.A.units + 64 < cLine) (hg : Gl X "sorted") (hm : X.mg "sorted" = none) (hg2 : Gl X "set") (hm2 : X.mg "set" = none) (ha : SndE X cn W cl a ma) (hs : starEach [a] X.env = (false, eval a X.env) :: starEach [] X.env := by rfl)
    (hs2 : starEach [.Call (.Name "set" p2) [a] [] pos2] X.env = (false, eval (.Call (.Name "set" p2) [a] [] pos2) X.env) :: starEach [] X.env := by rfl) :
    SndE X cn W cl (.Call (.Name "sorted" p) [.Call (.Name "set" p2) [a] [] pos2] [] pos) (eUn fSortSet ma) :=
  pe_imp (pe_callB (cr_sortedI hc hu) hg hm blt_sorted (pa_cons (pe_callTy (cr_setI hc) hg2 hm2 (by decide +kernel) (pa_cons ha pa_nil hs) (by decide) (by decide) hs) pa_nil hs2) (by decide) (by decide) hs2) fun s H Q ⟨r, env, st, Ex, at_, p⟩ =>
  tM_at at_ ((PostE.bind p).mono fun x H1 ⟨r1, d, st1, g, rs, rd, p1⟩ => by
    unfold fSortSet at p1
    cases e2 : lsOf st1 d with
    | none => rw [e2] at p1; exact p1.elim
    | some es =>
      rw [e2] at p1
      simp only [Option.bind] at p1
      cases e3 : intsD es with
      | none => rw [e3] at p1; exact p1.elim
      | some ns =>
        rw [e3] at p1
        simp only at p1
        by_cases hz : ns.length ≤ 4000
        · rw [if_pos hz] at p1
          obtain ⟨l, ws, rfl, h2, h3⟩ := ls_at rs rd e2
          rw [ints_rel e3] at h3
          rw [h3.ints] at h2
          refine ⟨l, ns, rfl, h2, by unfold scanBound; omega, fun q c hq => ?_⟩
          refine ⟨q, _, c, rfl, upd_same, fun ms m hup hmem hmn => ?_⟩
          have e : ms = sortSet ns := up_eq hup (sortSet_up ns) fun k => by rw [hmem k, sortSet_mem]; simp
          subst e
          have g1 := Grow.lay (r := r1) (o := SetO X.w q (fun j => decide (j ∈ ns)) c) hq
          have rs1 := rs.lay (o := SetO X.w q (fun j => decide (j ∈ ns)) c) hq
          exact p1 r1 _ _ (g1.trans (Grow.lay hmn)) (rs1.lay hmn) (.lst upd_same (rs1.out hmn) (fun z => ((at_.grow g rs).grow g1 rs1).xo _ z hmn) rds_ints)
        · rw [if_neg hz] at p1; exact p1.elim)
end
end Fx

namespace Fx
open PySem PySem.Spec PySem.Calls PyProof.Rows L2

/-! ## a fresh list becomes an object of the store -/
def cleanV : SV → SV
  | .val d => if noLst d = true then .val d else .un
  | .own _ => .un
  | x => x
def cleanE (env : SEnv) : SEnv := env.map cleanV
def eAdopt (m : ME) : ME := fun env st => match m (cleanE env) st with
  | .ok (.lst ds) st1 => if noLsts ds = true then .ok (.obj st1.length) (st1 ++ [.lst ds]) else .bad
  | .exc c f st1 => .exc c f st1
  | _ => .bad
section
variable {K : PySem.W.Frag} {cn : CN} {Ex : Addr → Prop} {r r' : List Addr} {H H' : Hp} {st : Sto} {env : SEnv} {s : L2.St} {cl : Bool}
theorem cleanE_get {i : Nat} {sv : SV} (h : (cleanE env)[i]? = some sv) : ∃ x, env[i]? = some x ∧ sv = cleanV x := by
  unfold cleanE at h
  rw [List.getElem?_map] at h
  cases e : env[i]? with
  | none => rw [e] at h; cases h
  | some x => rw [e] at h; cases h; exact ⟨x, rfl, rfl⟩
theorem clean_noOwn {i : Nat} {ds : List D} : (cleanE env)[i]? ≠ some (.own ds) := fun h => by
  obtain ⟨x, _, e⟩ := cleanE_get h
  cases x with
  | val d => simp only [cleanV] at e; split at e <;> cases e
  | _ => cases e
theorem At.cleaned (a : At K cn cl Ex r st H env s) : At K cn true (fun a => H a ≠ none) r st H (cleanE env) s where
  rs := a.rs
  eo := by
    refine ⟨by unfold cleanE; rw [List.length_map]; exact a.eo.len, fun i d h => ?_, fun i ds h => absurd h clean_noOwn, fun i j ds es b h _ _ _ => absurd h clean_noOwn⟩
    obtain ⟨x, h1, e⟩ := cleanE_get h
    cases x with
    | val d2 =>
      simp only [cleanV] at e
      by_cases hz : noLst d2 = true
      · rw [if_pos hz] at e
        cases e
        obtain ⟨v, h2, h3⟩ := a.eo.val i _ h1
        exact ⟨v, h2, h3.free hz⟩
      · rw [if_neg hz] at e; cases e
    | _ => cases e
  xo := fun _ h => h
  ow := fun z => by cases z
  oi := fun _ b ⟨i, ds, h, _⟩ => absurd h clean_noOwn
theorem RelSt.adopt (s : RelSt K cn r st H) {a : Addr} {vs : List V} {ds : List D} (h : H a = Option.some (HO.lst vs)) (hn : a ∉ r) (hs : RDs K r H All vs ds) : RelSt K cn (r ++ [a]) (st ++ [MO.lst ds]) H := by
  have hk : Kept r H All (r ++ [a]) H All := ⟨fun n b e => by rw [List.getElem?_append_left (List.getElem?_eq_some_iff.mp e).1]; exact e, fun b u e hb hx _ => by
    have : b ≠ a := fun z => by subst z; rw [h] at e; cases e; exact hx trivial vs rfl
    exact ⟨e, by simp [hb, this], fun z => z⟩⟩
  refine ⟨?_, by simp [s.len], fun m mo' b h1 h2 => ?_, s.tb⟩
  · rw [List.nodup_append]
    exact ⟨s.nd, by simp, fun x hx y hy e => by simp at hy; subst hy; subst e; exact hn hx⟩
  · by_cases e : m < r.length
    · rw [List.getElem?_append_left e] at h2
      rw [List.getElem?_append_left (by rw [← s.len]; exact e)] at h1
      exact (s.ok m mo' b h1 h2).kept hk rfl
    · have hl : m < (r ++ [a]).length := (List.getElem?_eq_some_iff.mp h2).1
      have em : m = r.length := by simp at hl; omega
      subst em
      rw [List.getElem?_append_right (Nat.le_refl _)] at h2
      rw [List.getElem?_append_right (by rw [s.len]; exact Nat.le_refl _)] at h1
      simp [s.len] at h1 h2
      subst h1; subst h2
      exact ⟨vs, h, hs.kept hk⟩
end
section
variable {X : Cx} {cn : CN} {W : WX} {cl : Bool} {e : Expr} {m : ME}
theorem se_adopt (h : SndE X cn W true e m) : SndE X cn W cl e (eAdopt m) := pe_imp h fun s H Q ⟨r, env, st, Ex, at_, p⟩ => ⟨r, cleanE env, st, _, at_.cleaned, by
  unfold eAdopt at p
  cases e1 : m (cleanE env) st with
  | bad => rw [e1] at p; exact p.elim
  | exc c f st1 => rw [e1] at p; exact p
  | ok d st1 =>
    rw [e1] at p
    cases d with
    | lst ds =>
      simp only at p
      by_cases hz : noLsts ds = true
      · rw [if_pos hz] at p
        intro r' v H' g rs rd
        cases rd with
        | lst h1 hn hx hs =>
          rename_i a vs
          have hx0 : H a = none := Classical.byContradiction fun z => hx z
          obtain ⟨l, el⟩ := g.pre
          refine p (r' ++ [a]) _ H' ⟨⟨l ++ [a], by rw [el, List.append_assoc]⟩, fun b hb => ?_, g.kq, g.tb⟩ (rs.adopt h1 hn (hs.free hz)) (.obj ?_)
          · rcases List.mem_append.mp hb with hb | hb
            · exact g.new b hb
            · simp at hb; subst hb; exact .inr hx0
          · rw [← rs.len, List.getElem?_append_right (Nat.le_refl _), Nat.sub_self]; rfl
      · rw [if_neg hz] at p; exact p.elim
    | _ => exact p.elim⟩
end

/-! ## methods that change a list of the store -/
abbrev LOp := List D → List D → Option (D × List D)
def eLm (op : LOp) (mo : ME) (ma : MA) : ME := fun env st => (mo env st).bind fun d st1 => match d with
  | .obj n => (match st1[n]? with
    | some (.lst _) => (ma env st1).bind fun xs st2 => (match st2[n]? with
      | some (.lst ds) => (match op ds xs with
        | some (res, es) => .ok res (st2.set n (.lst es))
        | none => .bad)
      | _ => .bad)
    | _ => .bad)
  | _ => .bad
/-- the rule gives what the op says -/
def LmOk (rule : V → List V → Hp → VK → Prop) (op : LOp) : Prop := ∀ (K : PySem.W.Frag) (r : List Addr) (H : Hp) (Ex : Addr → Prop) (l : Addr) (ws vs : List V) (ds as es : List D) (res : D), H l = some (.lst ws) → RDs K r H All ws ds → RDs K r H Ex vs as → op ds as = some (res, es) →
  ∃ y us, RD K r H All y res ∧ RDs K r H All us es ∧ ∀ Q : VK, Q y (upd H l (.lst us)) → rule (.ref l) vs H Q
theorem lm_run {X : Cx} {cn : CN} {W : WX} {cl : Bool} {rule : V → List V → Hp → VK → Prop} {op : LOp} (ok : LmOk rule op) {mo : ME} {ma : MA} : ∀ s H Q, tM X.K cn W cl (eLm op mo ma) s H Q → tBM X.K "list" rule (tM X.K cn W cl mo) (tMA X.K cn W cl ma) s H Q := fun s H Q ⟨r, env, st, Ex, at_, p⟩ =>
  tM_at at_ ((PostE.bind p).mono fun x H1 ⟨r1, d, st1, g1, rs1, rd1, p1⟩ => by
    cases d with
    | obj n =>
      simp only at p1
      cases e1 : st1[n]? with
      | none => rw [e1] at p1; exact p1.elim
      | some mo1 =>
        rw [e1] at p1
        cases mo1 with
        | lst ds0 =>
          simp only at p1
          cases rd1 with
          | obj hr =>
            obtain ⟨ws0, h1, _⟩ := rs1.ok n _ _ e1 hr
            refine ⟨.inl ⟨rfl, ws0, .inl (.inl h1)⟩, tMA_at (at_.grow g1 rs1) ((PostE.bindA p1).mono fun vs H2 ⟨r2, as, st2, g2, rs2, rd2, p2⟩ => ?_)⟩
            cases e2 : st2[n]? with
            | none => rw [e2] at p2; exact p2.elim
            | some mo2 =>
              rw [e2] at p2
              cases mo2 with
              | lst ds =>
                simp only at p2
                cases e3 : op ds as with
                | none => rw [e3] at p2; exact p2.elim
                | some z =>
                  obtain ⟨res, es⟩ := z
                  rw [e3] at p2
                  have hr2 := (g2.kept (Ex := Ex)).1 _ _ hr
                  obtain ⟨ws, h2, h3⟩ := rs2.ok n _ _ e2 hr2
                  obtain ⟨y, us, h4, h5, h6⟩ := ok _ _ _ _ _ _ _ _ _ _ _ h2 h3 rd2 e3
                  have hk : Kept r2 H2 All r2 (upd H2 _ (.lst us)) All := ⟨fun _ _ e => e, fun b u e hb _ _ => by
                    have : b ≠ _ := fun z => hb (z ▸ List.mem_of_getElem? hr2)
                    exact ⟨by rw [upd_ne this]; exact e, hb, fun z => z⟩⟩
                  exact h6 Q (p2 r2 y _ (Grow.write hr2) (rs2.write hr2 fun H' k e => ⟨us, e, h5.kept k⟩) (h4.kept hk).any)
              | _ => exact p2.elim
        | _ => exact p1.elim
    | _ => exact p1.elim)
def opAppend : LOp := fun ds as => match as with
  | [d] => if (sz (ds.length + 1) && noLst d) = true then some (.non, ds ++ [d]) else none
  | _ => none
theorem lm_append : LmOk rAppend opAppend := by
  intro K r H Ex l ws vs ds as es res h1 h2 h3 h
  match as, vs, h3 with
  | [], _, _ => cases h
  | _ :: _ :: _, _, _ => cases h
  | [d], _, .cons h4 .nil =>
    simp only [opAppend] at h
    by_cases hz : (sz (ds.length + 1) && noLst d) = true
    · rw [if_pos hz] at h
      cases h
      obtain ⟨hz1, hz2⟩ := Bool.and_eq_true_iff.mp hz
      refine ⟨.non, _, .non, h2.append (.cons (h4.free hz2) .nil), fun Q q => ⟨l, ws, _, rfl, rfl, h1, ?_, q⟩⟩
      have h5 := of_decide_eq_true hz1
      have h6 := h2.length
      have h7 : (100000 : Nat) < sizeLine := by decide
      omega
    · rw [if_neg hz] at h; cases h
def opClear : LOp := fun _ as => match as with
  | [] => some (.non, [])
  | _ => none
theorem lm_clear : LmOk rClear opClear := by
  intro K r H Ex l ws vs ds as es res h1 h2 h3 h
  match as, vs, h3 with
  | [], _, .nil => cases h; exact ⟨.non, [], .non, .nil, fun Q q => ⟨l, ws, rfl, rfl, h1, q⟩⟩
  | _ :: _, _, _ => cases h
def opPop : LOp := fun ds as => match as with
  | [] => (match ds.getLast? with
    | some d => some (d, ds.dropLast)
    | none => none)
  | _ => none
theorem RDs.dropLast {K : PySem.W.Frag} {r : List Addr} {H : Hp} {Ex : Addr → Prop} {vs : List V} {ds : List D} (h : RDs K r H Ex vs ds) : RDs K r H Ex vs.dropLast ds.dropLast := by
  rw [List.dropLast_eq_take, List.dropLast_eq_take, h.length]
  exact h.take _
theorem lm_pop : LmOk rPop opPop := by
  intro K r H Ex l ws vs ds as es res h1 h2 h3 h
  match as, vs, h3 with
  | [], _, .nil =>
    simp only [opPop] at h
    cases e : ds.getLast? with
    | none => rw [e] at h; cases h
    | some d =>
      rw [e] at h
      cases h
      rw [List.getLast?_eq_getElem?] at e
      obtain ⟨y, h4, h5⟩ := h2.get e
      exact ⟨y, _, h5, h2.dropLast, fun Q q => ⟨l, ws, y, rfl, rfl, h1, by rw [h2.length]; exact h4, q⟩⟩
  | _ :: _, _, _ => cases h
theorem RDs.erase {K : PySem.W.Frag} {r : List Addr} {H : Hp} {Ex : Addr → Prop} : ∀ {vs : List V} {ds : List D} (k : Nat), RDs K r H Ex vs ds → RDs K r H Ex (vs.eraseIdx k) (ds.eraseIdx k)
  | _, _, _, .nil => .nil
  | _, _, 0, .cons _ hs => hs
  | _, _, k + 1, .cons h hs => .cons h (hs.erase k)
def opPopAt : LOp := fun ds as => match as with
  | [.int i] => if 0 ≤ i ∧ i < 100000 then (match ds[i.toNat]? with
    | some d => some (d, ds.eraseIdx i.toNat)
    | none => none) else none
  | _ => none
theorem lm_popAt : LmOk rPopAt opPopAt := by
  intro K r H Ex l ws vs ds as es res h1 h2 h3 h
  unfold opPopAt at h
  split at h
  · rename_i i
    by_cases hi : 0 ≤ i ∧ i < 100000
    · rw [if_pos hi] at h
      cases e : ds[i.toNat]? with
      | none => rw [e] at h; cases h
      | some d =>
        rw [e] at h
        cases h
        obtain ⟨y, h4, h5⟩ := h2.get e
        cases h3 with
        | cons h6 h7 =>
          cases h7; cases h6
          have hl := (List.getElem?_eq_some_iff.mp h4).1
          exact ⟨y, _, h5, h2.erase _, fun Q q => ⟨l, ws, i, i.toNat, y, rfl, rfl, h1, by omega, by omega, by
            have := seqIx hl
            rwa [Int.toNat_of_nonneg hi.1] at this, h4, q⟩⟩
    · rw [if_neg hi] at h; cases h
  · cases h
def opExtend : LOp := fun ds as => match as with
  | [.lst es] => if (sz (ds.length + es.length) && noLsts es) = true then some (.non, ds ++ es) else none
  | _ => none
theorem lm_extend : LmOk rExtend opExtend := by
  intro K r H Ex l ws vs ds as es res h1 h2 h3 h
  unfold opExtend at h
  split at h
  · rename_i es'
    by_cases hz : (sz (ds.length + es'.length) && noLsts es') = true
    · rw [if_pos hz] at h
      cases h
      obtain ⟨hz1, hz2⟩ := Bool.and_eq_true_iff.mp hz
      cases h3 with
      | cons h6 h7 =>
        cases h7
        cases h6 with
        | lst g1 g2 g3 g4 =>
          refine ⟨.non, _, .non, h2.append (g4.free hz2), fun Q q => ⟨l, _, ws, _, rfl, rfl, h1, g1, ?_, q⟩⟩
          have h5 := sz_ok hz1
          rw [h2.length, g4.length]
          exact h5
    · rw [if_neg hz] at h; cases h
  · cases h
abbrev rInsert : V → List V → Hp → VK → Prop := fun x vs H Q => ∃ (l : Addr) (xs : List V) (i : Int) (y : V), x = .ref l ∧ vs = [.int i, y] ∧ H l = some (.lst xs) ∧ xs.length < sizeLine ∧ 0 ≤ i ∧ i < 2 ^ 63 ∧
    Q .non (upd H l (.lst (xs.take i.toNat ++ [y] ++ xs.drop i.toNat)))
def opInsert : LOp := fun ds as => match as with
  | [.int i, d] => if (decide (0 ≤ i ∧ i < 100000) && (sz (ds.length + 1) && noLst d)) = true then some (.non, ds.take i.toNat ++ [d] ++ ds.drop i.toNat) else none
  | _ => none
theorem lm_insert : LmOk rInsert opInsert := by
  intro K r H Ex l ws vs ds as es res h1 h2 h3 h
  unfold opInsert at h
  split at h
  · rename_i i d
    by_cases hz : (decide (0 ≤ i ∧ i < 100000) && (sz (ds.length + 1) && noLst d)) = true
    · rw [if_pos hz] at h
      cases h
      obtain ⟨hz1, hz2⟩ := Bool.and_eq_true_iff.mp hz
      obtain ⟨hz2, hz3⟩ := Bool.and_eq_true_iff.mp hz2
      have hz1 := of_decide_eq_true hz1
      have h5 := of_decide_eq_true hz2
      have h6 := h2.length
      have h7 : (100000 : Nat) < sizeLine := by decide
      cases h3 with
      | cons g1 g2 =>
        cases g1
        cases g2 with
        | cons g3 g4 =>
          cases g4
          exact ⟨.non, _, .non, ((h2.take _).append (.cons (g3.free hz3) .nil)).append (h2.drop _), fun Q q => ⟨l, ws, i, _, rfl, rfl, h1, by omega, hz1.1, by omega, q⟩⟩
    · rw [if_neg hz] at h; cases h
  · cases h

/-! ## max, min of a list; index -/
def fMax1 (d : D) (st : Sto) : R D := match (lsOf st d).bind intsD with
  | some (n :: ns) => .ok (.int (ns.foldl max n)) st
  | _ => .bad
def fMin1 (d : D) (st : Sto) : R D := match (lsOf st d).bind intsD with
  | some (n :: ns) => .ok (.int (ns.foldl min n)) st
  | _ => .bad
theorem foldl_max : ∀ (ns : List Int) (n : Int), n ≤ ns.foldl max n ∧ (∀ y ∈ ns, y ≤ ns.foldl max n) ∧ (ns.foldl max n = n ∨ ns.foldl max n ∈ ns)
  | [], n => ⟨Int.le_refl _, fun _ h => (nomatch h), .inl rfl⟩
  | x :: xs, n => by
    obtain ⟨h1, h2, h3⟩ := foldl_max xs (max n x)
    simp only [List.foldl_cons]
    refine ⟨by omega, fun y hy => ?_, ?_⟩
    · rcases List.mem_cons.mp hy with rfl | hy
      · omega
      · exact h2 y hy
    · rcases h3 with h3 | h3
      · by_cases h : n ≤ x
        · right; rw [h3]; simp [Int.max_eq_right h]
        · left; omega
      · exact .inr (List.mem_cons_of_mem _ h3)
theorem foldl_min : ∀ (ns : List Int) (n : Int), ns.foldl min n ≤ n ∧ (∀ y ∈ ns, ns.foldl min n ≤ y) ∧ (ns.foldl min n = n ∨ ns.foldl min n ∈ ns)
  | [], n => ⟨Int.le_refl _, fun _ h => (nomatch h), .inl rfl⟩
  | x :: xs, n => by
    obtain ⟨h1, h2, h3⟩ := foldl_min xs (min n x)
    simp only [List.foldl_cons]
    refine ⟨by omega, fun y hy => ?_, ?_⟩
    · rcases List.mem_cons.mp hy with rfl | hy
      · omega
      · exact h2 y hy
    · rcases h3 with h3 | h3
      · by_cases h : x ≤ n
        · right; rw [h3]; simp [Int.min_eq_right h]
        · left; omega
      · exact .inr (List.mem_cons_of_mem _ h3)
section
variable {K : PySem.W.Frag} {cn : CN}
theorem oc_max1 : OpC K cn (rMax K) (fOne fMax1) := oc_one fun W Ex ro st H s x d Q xo rs rx p => by
  unfold fMax1 at p
  cases e2 : lsOf st d with
  | none => rw [e2] at p; exact p.elim
  | some es =>
    rw [e2] at p
    simp only [Option.bind] at p
    cases e3 : intsD es with
    | none => rw [e3] at p; exact p.elim
    | some ns =>
      rw [e3] at p
      obtain ⟨a, ws, h1, h2, h3⟩ := ls_at rs rx e2
      rw [ints_rel e3] at h3
      rw [h3.ints] at h2
      cases ns with
      | nil => exact p.elim
      | cons n ns =>
        refine ⟨a, n :: ns, by rw [h1], h2, by simp, fun m hm hy => ?_⟩
        obtain ⟨g1, g2, g3⟩ := foldl_max ns n
        have e : m = ns.foldl max n := by
          have h4 : m ≤ ns.foldl max n := by
            rcases List.mem_cons.mp hm with rfl | hm
            · exact g1
            · exact g2 m hm
          have h5 : ns.foldl max n ≤ m := by
            rcases g3 with g3 | g3
            · rw [g3]; exact hy n (List.mem_cons_self ..)
            · exact hy _ (List.mem_cons_of_mem _ g3)
          omega
        rw [e]
        exact PostE.here p rs (.int _)
theorem oc_min1 : OpC K cn (rMin K) (fOne fMin1) := oc_one fun W Ex ro st H s x d Q xo rs rx p => by
  unfold fMin1 at p
  cases e2 : lsOf st d with
  | none => rw [e2] at p; exact p.elim
  | some es =>
    rw [e2] at p
    simp only [Option.bind] at p
    cases e3 : intsD es with
    | none => rw [e3] at p; exact p.elim
    | some ns =>
      rw [e3] at p
      obtain ⟨a, ws, h1, h2, h3⟩ := ls_at rs rx e2
      rw [ints_rel e3] at h3
      rw [h3.ints] at h2
      cases ns with
      | nil => exact p.elim
      | cons n ns =>
        refine ⟨a, n :: ns, by rw [h1], h2, by simp, fun m hm hy => ?_⟩
        obtain ⟨g1, g2, g3⟩ := foldl_min ns n
        have e : m = ns.foldl min n := by
          have h4 : ns.foldl min n ≤ m := by
            rcases List.mem_cons.mp hm with rfl | hm
            · exact g1
            · exact g2 m hm
          have h5 : m ≤ ns.foldl min n := by
            rcases g3 with g3 | g3
            · rw [g3]; exact hy n (List.mem_cons_self ..)
            · exact hy _ (List.mem_cons_of_mem _ g3)
          omega
        rw [e]
        exact PostE.here p rs (.int _)
end
/-- xs.index(k), ints -/
def fIndex (x k : D) (st : Sto) : R D := match (lsOf st x).bind intsD, k with
  | some ns, .int k => (match ns.findIdx? fun n => decide (n = k) with
    | some j => .ok (.int (j : Nat)) st
    | none => .bad)
  | _, _ => .bad
def eIndex (mo ma : ME) : ME := fun env st => (mo env st).bind fun x st1 => match lsOf st1 x with
  | some _ => (ma env st1).bind fun k st2 => fIndex x k st2
  | none => .bad
section
variable {X : Cx} {cn : CN} {W : WX} {cl : Bool} {pos p p2 p3 : Pos} {a b o : Expr} {ma mb mo : ME}
theorem x_max1 (hc : X.calm = true) (hg : Gl X "max") (hm : X.mg "max" = none) (ha : SndE X cn W cl a ma) (hs : starEach [a] X.env = (false, eval a X.env) :: starEach [] X.env := by rfl) : SndE X cn W cl (.Call (.Name "max" p) [a] [] pos) (eUn fMax1 ma) := se_1 (se_callB (cr_max hc) oc_max1 hg hm blt_max (sa_cons ha sa_nil hs) (by decide) (by decide) hs)
theorem x_min1 (hc : X.calm = true) (hg : Gl X "min") (hm : X.mg "min" = none) (ha : SndE X cn W cl a ma) (hs : starEach [a] X.env = (false, eval a X.env) :: starEach [] X.env := by rfl) : SndE X cn W cl (.Call (.Name "min" p) [a] [] pos) (eUn fMin1 ma) := se_1 (se_callB (cr_min hc) oc_min1 hg hm blt_min (sa_cons ha sa_nil hs) (by decide) (by decide) hs)
end
end Fx

namespace Fx
open PySem PySem.Spec PySem.Calls PyProof.Rows L2

/-! ## calls with keywords -/
def permL {α : Type} (pi : List Nat) (l : List α) : List α := pi.filterMap fun i => l[i]?
def permFS (pi : List Nat) (sem : FS) : FS := fun ds st => sem (permL pi ds) st
theorem permL_len {α : Type} {pi : List Nat} {l : List α} (h : ∀ i ∈ pi, i < l.length) : (permL pi l).length = pi.length := by
  induction pi with
  | nil => rfl
  | cons i pi ih =>
    unfold permL
    rw [List.filterMap_cons, List.getElem?_eq_getElem (h i (List.mem_cons_self ..))]
    simp only [List.length_cons]
    exact congrArg (· + 1) (ih fun j hj => h j (List.mem_cons_of_mem _ hj))
theorem permL_vals {pi : List Nat} {vs : List V} {us : List Value} (h : Vals vs us) : Vals (permL pi vs) (permL pi us) := by
  induction pi with
  | nil => exact .nil
  | cons i pi ih =>
    unfold permL
    rw [List.filterMap_cons, List.filterMap_cons]
    cases e : vs[i]? with
    | none =>
      have : us[i]? = none := by
        rw [List.getElem?_eq_none_iff] at e ⊢
        rw [← h.length]; exact e
      rw [this]; exact ih
    | some v =>
      obtain ⟨u, e2, r⟩ := h.get e
      rw [e2]
      exact .cons r ih
theorem permL_rds {K : PySem.W.Frag} {r : List Addr} {H : Hp} {Ex : Addr → Prop} {pi : List Nat} {vs : List V} {ds : List D} (h : RDs K r H Ex vs ds) : RDs K r H Ex (permL pi vs) (permL pi ds) := by
  induction pi with
  | nil => exact .nil
  | cons i pi ih =>
    unfold permL
    rw [List.filterMap_cons, List.filterMap_cons]
    cases e : vs[i]? with
    | none =>
      have : ds[i]? = none := by
        rw [List.getElem?_eq_none_iff] at e ⊢
        rw [← h.length]; exact e
      rw [this]; exact ih
    | some v =>
      obtain ⟨u, e2, r⟩ := h.getV e
      rw [e2]
      exact .cons r ih
/-- a def called with np values and the keywords ks -/
structure FnKW (P : Program) (w : World) (K : PySem.W.Frag) (mg : Str → Option Value) (base : Heap) (cn : CN) (f : Addr) (k np : Nat) (ks : List Str) (sem : FS) : Prop where
  kp : PySem.W.keepIn K (.ref f) = true
  run : ∀ (A : Around) (outer : List Env) (s : Shared) (H : Hp) (us ws : List Value) (vs zs : List V) (Q : VK) (E : XK), Room k A → Env0 P w K mg base A outer s H → Vals vs us → Vals zs ws → us.length = np → ws.length = ks.length → spOf K cn sem (vs ++ zs) H Q E →
    codeAny (model P w) A (.call (.ref f) ⟨us, ks.zip ws⟩) (CR (L2.CX P w) outer P w H s Q E) s
theorem FnKW.mono {P : Program} {w : World} {K : PySem.W.Frag} {mg : Str → Option Value} {base : Heap} {cn : CN} {f : Addr} {j k np : Nat} {ks : List Str} {sem : FS} (F : FnKW P w K mg base cn f j np ks sem) (h : j ≤ k) : FnKW P w K mg base cn f k np ks sem :=
  ⟨F.kp, fun A outer s H us ws vs zs Q E hr => F.run A outer s H us ws vs zs Q E (hr.mono h)⟩
/-- a def, by its parameters -/
def FnKK (P : Program) (w : World) (K : PySem.W.Frag) (mg : Str → Option Value) (base : Heap) (cn : CN) (x qual : Str) (params : Arguments) (body : List Stmt) (scope : Scope) (f : Addr) (ps : List Str) (k n : Nat) (sem : FS) : Prop :=
  ∃ fd, FunD K x qual params body scope [] [] f fd ∧ FnOk P w K mg base (L2.CX P w) k f fd ps (fun vs H Q E => vs.length = n ∧ spOf K cn sem vs H Q E)
section
variable {P : Program} {w : World} {K : PySem.W.Frag} {mg : Str → Option Value} {base : Heap} {cn : CN} {x qual : Str} {params : Arguments} {body : List Stmt} {scope : Scope} {f : Addr} {N ps : List Str} {k n np : Nat} {m : MS} {ks : List Str}
theorem kk_T (O : FnKK P w K mg base cn x qual params body scope f ps (k + 1) n (fnOf N.length m)) (hn : ps.length = n)
    (hb : ∀ (kV doc pm : Value) (an : Option Addr) (cdv ct : Value) (us : List Value), us.length = ps.length → bindArgs (PySem.W.fnOf x qual params body scope .none kV doc pm an cdv ct) ⟨us, []⟩ = pure (ps.zip us)) : FnT P w K mg base cn f (k + 1) (fnOfN n N.length m) := by
  obtain ⟨fd, F, O⟩ := O
  refine ⟨F.kp, (O.raw (F.bindsN hb) .nil).imp fun vs H Q E h => ?_⟩
  rw [List.append_nil]
  obtain ⟨r, ds, st, Ex, rs, xo, rd, p⟩ := h
  unfold fnOfN at p
  by_cases hl : ds.length = n
  · rw [if_pos hl] at p
    exact ⟨rd.length.trans hl, r, ds, st, Ex, rs, xo, rd, p⟩
  · rw [if_neg hl] at p; exact p.elim
theorem kk_KW (O : FnKK P w K mg base cn x qual params body scope f ps (k + 1) n (fnOf N.length m)) (np : Nat) (ks : List Str) (pi : List Nat) (hpi : (pi.all fun i => decide (i < np + ks.length)) = true) (hn : pi.length = n)
    (hb : ∀ (kV doc pm : Value) (an : Option Addr) (cdv ct : Value) (us ws : List Value), us.length = np → ws.length = ks.length → bindArgs (PySem.W.fnOf x qual params body scope .none kV doc pm an cdv ct) ⟨us, ks.zip ws⟩ = pure (ps.zip (permL pi (us ++ ws)))) : FnKW P w K mg base cn f (k + 1) np ks (permFS pi (fnOfN n N.length m)) := by
  obtain ⟨fd, F, O⟩ := O
  refine ⟨F.kp, fun A outer s H us ws vs zs Q E hr e0 rv rz hl1 hl2 h => ?_⟩
  have hlen : (permL pi (vs ++ zs)).length = n := by
    rw [permL_len fun i hi => ?_, hn]
    have h1 := of_decide_eq_true (List.all_eq_true.mp hpi i hi)
    rw [List.length_append, rv.length, rz.length]; omega
  obtain ⟨r, ds, st, Ex, rs, xo, rd, p⟩ := h
  have rd2 := permL_rds (pi := pi) rd
  have hl : (permL pi ds).length = n := by rw [← rd2.length]; exact hlen
  refine O.run A outer s H _ (permL pi (us ++ ws)) (permL pi (vs ++ zs)) Q E hr e0 ?_ (permL_vals (rv.append rz)) ⟨hlen, r, permL pi ds, st, Ex, rs, xo, rd2, ?_⟩
  · obtain ⟨oc, od, dV, kV, doc, pm, an, cdv, ct, osl, rfl, lk, hcd, hD, hK⟩ := F.ex
    rcases hD with ⟨_, rfl⟩ | ⟨e, _⟩
    · exact .of_eq (hb kV doc pm an cdv ct us ws hl1 hl2)
    · exact absurd rfl e
  · unfold permFS fnOfN at p
    rw [if_pos hl] at p
    exact p
theorem kk_fnIn (O : FnKK P w K mg base cn x qual params body scope f ps k n (fnOf N.length m)) : PySem.W.fnIn K f = true := by
  obtain ⟨fd, F, _⟩ := O
  obtain ⟨oc, od, dV, kV, doc, pm, an, cdv, ct, osl, rfl, lk, _⟩ := F.ex
  unfold PySem.W.fnIn
  rw [lk]
end
section
variable {X : Cx} {cn : CN} {W : WX} {cl : Bool} {pos p p2 : Pos} {e o : Expr} {es : List Expr} {kws : List Keyword} {ma mk : MA} {mo me : ME} {x m : Str} {f : Addr} {k np : Nat} {ks : List Str} {sem : FS}
abbrev SndK (X : Cx) (cn : CN) (W : WX) (cl : Bool) (kws : List Keyword) (m : MA) : Prop := PK X kws (tMA X.K cn W cl m)
theorem pk_imp {X : Cx} {kws : List Keyword} {t t' : TA} (h : PK X kws t) (i : ∀ s H Q, t' s H Q → t s H Q) : PK X kws t' := ⟨fun pos pins s σ H Q I q => h.run pos pins s σ H Q I (i _ _ _ q)⟩
theorem sk_nil : SndK X cn W cl [] aNil := pk_imp pk_nil fun s H Q ⟨r, env, st, Ex, at_, p⟩ => p r [] H Grow.refl at_.rs .nil
theorem sk_cons {nm : Option Str} {kpos : Pos} (ha : SndE X cn W cl e me) (hr : SndK X cn W cl kws mk) : SndK X cn W cl (⟨nm, e, kpos⟩ :: kws) (aCons me mk) := pk_imp (pk_cons ha hr) fun s H Q ⟨r, env, st, Ex, at_, p⟩ =>
  tM_at at_ ((PostA.bind p).mono fun x H1 ⟨r1, d1, st1, g1, rs1, rd1, p1⟩ => ⟨r1, env, st1, Ex, at_.grow g1 rs1, by
    have p2 := PostA.bindA p1
    cases e : mk env st1 with
    | ok ds st2 =>
      rw [e] at p2
      exact fun r2 vs H2 g2 rs2 rd2 => by
        obtain ⟨r3, ds3, st3, g3, rs3, rd3, p3⟩ := p2 r2 vs H2 g2 rs2 rd2
        exact p3 r3 (x :: vs) H2 Grow.refl rs3 (.cons (g3.rd rd1) rd3)
    | exc c f st2 => rw [e] at p2; exact p2
    | bad => rw [e] at p2; exact p2⟩)
theorem run_KW {pins : List (Addr × Obj)} {σ : L2.St} {H : Hp} {s : Shared} {E : XK} {Q : VK} {us ws : List Value} {vs zs : List V} (F : FnKW X.prog X.w X.K X.mg X.base cn f k np ks sem) (hr : Room k X.A) (hx : PassesAt (L2.CX X.prog X.w) X σ E) (I : Inv X pins σ H s) (r : Vals vs us) (rz : Vals zs ws) (h1 : us.length = np) (h2 : ws.length = ks.length) (h : spOf X.K cn sem (vs ++ zs) H Q E) :
    wpAny (model X.prog X.w) X.A (call (.ref f) us (ks.zip ws)) (EP X pins σ Q) X.xe s := by
  refine wpAny_call (codeAny_mono (F.run X.A X.stack s H us ws vs zs Q E hr I.env0 r rz h1 h2 h) fun r s' hq => ?_)
  cases r with
  | error e => exact hx pins H s e s' I hq
  | ok fl =>
    cases fl with
    | ret u => exact I.after hq
    | next => exact False.elim hq
    | brk => exact False.elim hq
    | cont => exact False.elim hq
/-- the keywords' number -/
theorem kws_len {pins : List (Addr × Obj)} {σ : L2.St} {H : Hp} {s : Shared} {Q : List Value → Shared → Prop} {n : Nat} (hk : (backToKw pos (keywordEach kws X.env)).length = n) : True := trivial
/-- f(k = v, ..) -/
theorem se_call0K (F : ∃ f : Addr, X.mg x = some (.ref f) ∧ FnKW X.prog X.w X.K X.mg X.base cn f k 0 ks sem) (tk : Takes X W) (hr : Room k X.A) (hg : Gl X x) (hk : SndK X cn W cl kws mk) (hdb : (x == ("__debug__" : Str)) = false := by decide)
    (hall : (backToKw pos (keywordEach kws X.env)).all (·.1.isSome) = true := by rfl) (hks : (backToKw pos (keywordEach kws X.env)).filterMap (·.1) = ks := by rfl) (hpl : ((backTo pos (starEach [] X.env)).any (·.1) || (backToKw pos (keywordEach kws X.env)).any (·.1.isNone)) = false := by rfl) (hl : ∀ vs H (Q : Prop), (spOf X.K cn sem vs H (fun _ _ => Q) (fun _ _ _ => Q) → vs.length = ks.length) ∨ True := by intro _ _ _; exact .inr trivial) :
    SndE X cn W cl (.Call (.Name x p) [] kws pos) (eCall (fun ds st => if ds.length = ks.length then sem ds st else .bad) mk) := by
  obtain ⟨f, h1, h2⟩ := F
  refine ⟨fun pins s σ H Q I h => ?_⟩
  refine wpAny_Call_Name_kw (ld_glob I hg h1 ?_ hdb)
  refine PySem.W.callWith_KW0 (h₀ := X.base) I.ok.mod.kin h2.kp hall (thn (hk.run pos pins s σ H _ I (call_at h)) fun ws s2 ⟨zs, H2, I2, rz, q⟩ => ⟨I2.kIn, ?_⟩) hpl
  rw [hks]
  obtain ⟨r, ds, st, Ex, rs, xo, rd, p⟩ := q
  by_cases hlen : ds.length = ks.length
  · simp only [if_pos hlen] at p
    exact run_KW (us := []) (vs := []) h2 hr (passAt tk σ) I2 .nil rz rfl (by rw [← rz.length, rd.length]; exact hlen) ⟨r, ds, st, Ex, rs, xo, rd, p⟩
  · simp only [if_neg hlen] at p
    exact p.elim
abbrev MethKW (P : Program) (w : World) (K : PySem.W.Frag) (mg : Str → Option Value) (base : Heap) (cn : CN) (m : Str) (k np : Nat) (ks : List Str) (M : Nat → Option FS) : Prop :=
  ∀ c sem, M c = some sem → ∃ f, Cls K (ca K cn c) ∧ Meth K (ca K cn c) m f ∧ FnKW P w K mg base cn f k (np + 1) ks sem
/-- o.m(e, .., k = v, ..) -/
def eMethK (m : Str) (np nk : Nat) (M : Nat → Option FS) (mo : ME) (ma mk : MA) : ME := fun env st => (mo env st).bind fun d st1 => match insOf d st1 with
  | some (n, c, fs) => (match M c, fs.lookup m with
    | some sem, none => (ma env st1).bind fun xs st2 => (mk env st2).bind fun zs st3 => if (decide (xs.length = np) && decide (zs.length = nk)) = true then sem (.obj n :: (xs ++ zs)) st3 else .bad
    | _, _ => .bad)
  | none => .bad
theorem se_methK {M : Nat → Option FS} {apos : Pos} {pl : Sem Bool} (hM : MethKW X.prog X.w X.K X.mg X.base cn m k np ks M) (tk : Takes X W) (hr : Room k X.A) (ho : SndE X cn W cl o mo) (ha : SndA X cn W cl (e :: es) ma) (hk : SndK X cn W cl kws mk)
    (hall : (backToKw pos (keywordEach kws X.env)).all (·.1.isSome) = true := by rfl) (hks : (backToKw pos (keywordEach kws X.env)).filterMap (·.1) = ks := by rfl) (hpl : ((backTo pos (starEach (e :: es) X.env)).any (·.1) || (backToKw pos (keywordEach kws X.env)).any (·.1.isNone)) = false := by rfl) (hst : starEach (e :: es) X.env = (false, eval e X.env) :: starEach es X.env := by rfl)
    (ht : eval (.Call (.Attribute o m apos) (e :: es) kws pos) X.env = (do
      let ov ← eval o X.env
      standAt apos.atName
      let (f, first) ← holding [ov] (getMethod ov m pl)
      callWith pos f first (backTo pos (starEach (e :: es) X.env)) (backToKw pos (keywordEach kws X.env))) := by rfl) :
    SndE X cn W cl (.Call (.Attribute o m apos) (e :: es) kws pos) (eMethK m np ks.length M mo ma mk) := by
  refine ⟨fun pins s σ H Q I h => ?_⟩
  obtain ⟨r, env, st, Ex, at_, p⟩ := h
  refine PySem.W.methodCall_KW (pl := pl) (thn (ho.run pins s σ H _ I (tM_at at_ (PostE.bind p))) fun u s1 ⟨v, H1, I1, rv, r1, d, st1, g1, rs1, rd1, p1⟩ => ?_) ht
  cases e1 : insOf d st1 with
  | none => rw [e1] at p1; exact p1.elim
  | some z =>
    obtain ⟨n, c, fs⟩ := z
    rw [e1] at p1
    obtain ⟨_, hst2, a, dx, vs, ev, hrn, ha1, hl, hs⟩ := ins_at rs1 rd1 e1
    simp only at p1
    cases e2 : M c with
    | none => simp only [e2] at p1; exact p1.elim
    | some sem =>
      cases e3 : fs.lookup m with
      | some _ => simp only [e2, e3] at p1; exact p1.elim
      | none =>
        simp only [e2, e3] at p1
        obtain ⟨f, hC, hMe, F⟩ := hM c sem e2
        subst ev
        obtain rfl : u = Value.ref a := rv
        refine getmeth_ok I1 ha1 hC hMe ((lookup_zip hl hs).2 e3) ?_
        refine PySem.W.callWith_KW (first := [.ref a]) (h₀ := X.base) I.ok.mod.kin hMe.kp hall (thn (ha.run pos pins s1 σ H1 _ I1 (tMA_at (at_.grow g1 rs1) (PostE.bindA p1))) fun us s2 ⟨ws, H2, I2, r2, r3, ds3, st3, g3, rs3, rd3, p3⟩ => ?_) hpl hst
        refine thn (hk.run pos pins s2 σ H2 _ I2 (tMA_at ((at_.grow g1 rs1).grow g3 rs3) (PostE.bindA p3))) fun us4 s4 ⟨zs, H4, I4, r4, r5, ds5, st5, g5, rs5, rd5, p5⟩ => ⟨I4.kIn, ?_⟩
        rw [hks]
        by_cases hlen : (decide (ds3.length = np) && decide (ds5.length = ks.length)) = true
        · rw [if_pos hlen] at p5
          obtain ⟨l1, l2⟩ := Bool.and_eq_true_iff.mp hlen
          have l1 := of_decide_eq_true l1
          have l2 := of_decide_eq_true l2
          exact run_KW (us := .ref a :: us) (vs := .ref a :: ws) F hr (passAt tk σ) I4 (.cons rfl r2) r4 (by rw [List.length_cons, ← r2.length, rd3.length, l1]) (by rw [← r4.length, rd5.length, l2])
            ⟨r5, .obj n :: (ds3 ++ ds5), st5, Ex, rs5, (((at_.grow g1 rs1).grow g3 rs3).grow g5 rs5).xo, .cons (.obj (((g3.trans g5).kept (Ex := Ex)).1 _ _ hrn)) ((g5.rds rd3).append rd5), p5.slots fun _ _ _ z => z⟩
        · rw [if_neg hlen] at p5; exact p5.elim
theorem se_meth0K {M : Nat → Option FS} {apos : Pos} {pl : Sem Bool} (hM : MethKW X.prog X.w X.K X.mg X.base cn m k 0 ks M) (tk : Takes X W) (hr : Room k X.A) (ho : SndE X cn W cl o mo) (hk : SndK X cn W cl kws mk)
    (hall : (backToKw pos (keywordEach kws X.env)).all (·.1.isSome) = true := by rfl) (hks : (backToKw pos (keywordEach kws X.env)).filterMap (·.1) = ks := by rfl) (hpl : ((backTo pos (starEach [] X.env)).any (·.1) || (backToKw pos (keywordEach kws X.env)).any (·.1.isNone)) = false := by rfl)
    (ht : eval (.Call (.Attribute o m apos) [] kws pos) X.env = (do
      let ov ← eval o X.env
      standAt apos.atName
      let (f, first) ← holding [ov] (getMethod ov m pl)
      callWith pos f first (backTo pos (starEach [] X.env)) (backToKw pos (keywordEach kws X.env))) := by rfl) :
    SndE X cn W cl (.Call (.Attribute o m apos) [] kws pos) (eMethK m 0 ks.length M mo aNil mk) := by
  refine ⟨fun pins s σ H Q I h => ?_⟩
  obtain ⟨r, env, st, Ex, at_, p⟩ := h
  refine PySem.W.methodCall_KW (pl := pl) (thn (ho.run pins s σ H _ I (tM_at at_ (PostE.bind p))) fun u s1 ⟨v, H1, I1, rv, r1, d, st1, g1, rs1, rd1, p1⟩ => ?_) ht
  cases e1 : insOf d st1 with
  | none => rw [e1] at p1; exact p1.elim
  | some z =>
    obtain ⟨n, c, fs⟩ := z
    rw [e1] at p1
    obtain ⟨_, hst2, a, dx, vs, ev, hrn, ha1, hl, hs⟩ := ins_at rs1 rd1 e1
    simp only at p1
    cases e2 : M c with
    | none => simp only [e2] at p1; exact p1.elim
    | some sem =>
      cases e3 : fs.lookup m with
      | some _ => simp only [e2, e3] at p1; exact p1.elim
      | none =>
        simp only [e2, e3] at p1
        obtain ⟨f, hC, hMe, F⟩ := hM c sem e2
        subst ev
        obtain rfl : u = Value.ref a := rv
        refine getmeth_ok I1 ha1 hC hMe ((lookup_zip hl hs).2 e3) ?_
        have p3 : PostE X.K cn W Ex ((mk env st1).bind fun zs st3 => if (decide (([] : List D).length = 0) && decide (zs.length = ks.length)) = true then sem (.obj n :: ([] ++ zs)) st3 else .bad) r1 H1 σ Q := p1
        refine PySem.W.callWith_KW0 (first := [.ref a]) (h₀ := X.base) I.ok.mod.kin hMe.kp hall (thn (hk.run pos pins s1 σ H1 _ I1 (tMA_at (at_.grow g1 rs1) (PostE.bindA p3))) fun us4 s4 ⟨zs, H4, I4, r4, r5, ds5, st5, g5, rs5, rd5, p5⟩ => ⟨I4.kIn, ?_⟩) hpl
        rw [hks]
        by_cases hlen : (decide (([] : List D).length = 0) && decide (ds5.length = ks.length)) = true
        · rw [if_pos hlen] at p5
          obtain ⟨_, l2⟩ := Bool.and_eq_true_iff.mp hlen
          have l2 := of_decide_eq_true l2
          exact run_KW (us := [.ref a]) (vs := [.ref a]) F hr (passAt tk σ) I4 (.cons rfl .nil) r4 rfl (by rw [← r4.length, rd5.length, l2])
            ⟨r5, .obj n :: ([] ++ ds5), st5, Ex, rs5, ((at_.grow g1 rs1).grow g5 rs5).xo, .cons (.obj ((g5.kept (Ex := Ex)).1 _ _ hrn)) (show RDs X.K r5 H4 Ex ([] ++ zs) ([] ++ ds5) from rd5), p5.slots fun _ _ _ z => z⟩
        · rw [if_neg hlen] at p5; exact p5.elim
/-- a static method by keywords -/
theorem se_sm0K {C f : Addr} {apos : Pos} {pl : Sem Bool} (hS : SmOf X.K C m f) (F : FnKW X.prog X.w X.K X.mg X.base cn f k 0 ks sem) (gC : X.mg x = some (.ref C)) (hg : Gl X x) (tk : Takes X W) (hr : Room k X.A) (hk : SndK X cn W cl kws mk)
    (hdb : (x == ("__debug__" : Str)) = false := by decide) (hall : (backToKw pos (keywordEach kws X.env)).all (·.1.isSome) = true := by rfl) (hks : (backToKw pos (keywordEach kws X.env)).filterMap (·.1) = ks := by rfl) (hpl : ((backTo pos (starEach [] X.env)).any (·.1) || (backToKw pos (keywordEach kws X.env)).any (·.1.isNone)) = false := by rfl)
    (ht : eval (.Call (.Attribute (.Name x p) m apos) [] kws pos) X.env = (do
      let ov ← eval (.Name x p) X.env
      standAt apos.atName
      let (f, first) ← holding [ov] (getMethod ov m pl)
      callWith pos f first (backTo pos (starEach [] X.env)) (backToKw pos (keywordEach kws X.env))) := by rfl) :
    SndE X cn W cl (.Call (.Attribute (.Name x p) m apos) [] kws pos) (eCall (fun ds st => if ds.length = ks.length then sem ds st else .bad) mk) := by
  refine ⟨fun pins s σ H Q I h => ?_⟩
  refine PySem.W.methodCall_KW (pl := pl) (thn ((pe_glob (pos := p) hg gC (show RelV (.ref C) (.ref C) from rfl) hdb).run pins s σ H (fun v H1 => v = .ref C ∧ H1 = H) I ⟨rfl, rfl⟩) fun u s1 ⟨v, H1, I1, rv, ev, eH⟩ => ?_) ht
  subst ev eH
  obtain rfl : u = Value.ref C := rv
  obtain ⟨t, h1, q, rest, h2, h3⟩ := hS.rd
  refine PySem.W.method_cls I1.kIn hS.mc (PySem.W.cls_bind I1.kIn h1 h2 (wpAny_call (PySem.W.sm_get (s := { s1 with toks := s1.toks + 1 }) I1.kIn h3 (PySem.W.handed_on rfl ?_))))
  have I2 := I1.tok (s1.toks + 1)
  refine PySem.W.callWith_KW0 (h₀ := X.base) I.ok.mod.kin F.kp hall (thn (hk.run pos pins _ σ H1 _ I2 (call_at h)) fun ws s2 ⟨zs, H2, I2, rz, q⟩ => ⟨I2.kIn, ?_⟩) hpl
  rw [hks]
  obtain ⟨r, ds, st, Ex, rs, xo, rd, p⟩ := q
  by_cases hlen : ds.length = ks.length
  · simp only [if_pos hlen] at p
    exact run_KW (us := []) (vs := []) F hr (passAt tk σ) I2 .nil rz rfl (by rw [← rz.length, rd.length]; exact hlen) ⟨r, ds, st, Ex, rs, xo, rd, p⟩
  · simp only [if_neg hlen] at p
    exact p.elim
/-- C(k = v, ..) -/
theorem run_makeKW {pins : List (Addr × Obj)} {σ : L2.St} {H : Hp} {s : Shared} {E : XK} {Q : VK} {us ws : List Value} {vs zs : List V} {C f : Addr} (M : Mk X.K C f) (F : FnKW X.prog X.w X.K X.mg X.base cn f k (np + 1) ks sem) (hr : Room (k + 1) X.A)
    (hx : PassesAt (L2.CX X.prog X.w) X σ E) (I : Inv X pins σ H s) (r : Vals vs us) (rz : Vals zs ws) (h1 : us.length = np) (h2 : ws.length = ks.length)
    (h : ∀ x dx, H x = none → H dx = none → dx ≠ x → spOf X.K cn sem (.ref x :: (vs ++ zs)) (upd (upd H dx (.own x)) x (.ins C dx [])) (fun v H2 => v = .non ∧ Q (.ref x) H2) E) :
    wpAny (model X.prog X.w) X.A (call (.ref C) us (ks.zip ws)) (EP X pins σ Q) X.xe s := by
  have hq := h (s.heap.objs.size + 1) s.heap.objs.size (I.hok.fresh (Nat.le_succ _)) (I.hok.fresh (Nat.le_refl _)) (Nat.ne_of_lt (Nat.lt_succ_self _))
  have I2 := Inv.made (C := C) I
  refine wpAny_call (make_map (f := f) I.kIn M.makes M.init (beq_iff_eq.mp M.fn) (codeAny_mono (F.run _ X.stack _ _ (Value.ref (s.heap.objs.size + 1) :: us) ws (V.ref (s.heap.objs.size + 1) :: vs) zs _ E (hr.make C us (ks.zip ws))
    (I2.env0.make C us (ks.zip ws)) (.cons rfl r) rz (by rw [List.length_cons, h1]) h2 hq) fun r s' hq' => ?_))
  cases r with
  | error e => exact hx pins _ _ e s' I2 hq'
  | ok fl =>
    cases fl with
    | ret u =>
      obtain ⟨v, H', I3, rv, ev, q3⟩ := I2.after hq'
      subst ev
      exact ⟨rv, ⟨V.ref (s.heap.objs.size + 1), H', I3, rfl, q3⟩⟩
    | next => exact False.elim hq'
    | brk => exact False.elim hq'
    | cont => exact False.elim hq'
theorem se_make0K {c : Nat} (F : ∃ f : Addr, X.mg x = some (.ref (ca X.K cn c)) ∧ Mk X.K (ca X.K cn c) f ∧ FnKW X.prog X.w X.K X.mg X.base cn f k 1 ks sem) (tk : Takes X W) (hr : Room (k + 1) X.A) (hg : Gl X x) (hk : SndK X cn W cl kws mk) (hdb : (x == ("__debug__" : Str)) = false := by decide)
    (hall : (backToKw pos (keywordEach kws X.env)).all (·.1.isSome) = true := by rfl) (hks : (backToKw pos (keywordEach kws X.env)).filterMap (·.1) = ks := by rfl) (hpl : ((backTo pos (starEach [] X.env)).any (·.1) || (backToKw pos (keywordEach kws X.env)).any (·.1.isNone)) = false := by rfl) :
    SndE X cn W cl (.Call (.Name x p) [] kws pos) (eCall (fun ds st => if ds.length = ks.length then fMake c sem ds st else .bad) mk) := by
  obtain ⟨f, h1, M, h2⟩ := F
  refine ⟨fun pins s σ H Q I h => ?_⟩
  refine wpAny_Call_Name_kw (ld_glob I hg h1 ?_ hdb)
  refine PySem.W.callWith_KW0 (h₀ := X.base) I.ok.mod.kin M.kp hall (thn (hk.run pos pins s σ H _ I (call_at h)) fun ws s2 ⟨zs, H2, I2, rz, q⟩ => ⟨I2.kIn, ?_⟩) hpl
  rw [hks]
  obtain ⟨r, ds, st, Ex, rs, xo, rd, p⟩ := q
  by_cases hlen : ds.length = ks.length
  · simp only [if_pos hlen] at p
    exact run_makeKW (np := 0) (us := []) (vs := []) M h2 hr (passAt tk σ) I2 .nil rz rfl (by rw [← rz.length, rd.length]; exact hlen) (make_at (s := []) (W := fun cls dd _ H' => WE W σ cls dd H') rs xo rd p)
  · simp only [if_neg hlen] at p
    exact p.elim

/-! ## an instance called -/
abbrev CallOk (P : Program) (w : World) (K : PySem.W.Frag) (mg : Str → Option Value) (base : Heap) (cn : CN) (k : Nat) (M : Nat → Option FS) : Prop :=
  ∀ c sem, M c = some sem → ∃ f, StX.CallO K (ca K cn c) f ∧ FnT P w K mg base cn f k sem
def eInst (M : Nat → Option FS) (mo : ME) (ma : MA) : ME := fun env st => (mo env st).bind fun d st1 => match insOf d st1 with
  | some (n, c, fs) => (match M c with
    | some sem => (ma env st1).bind fun xs st2 => (match insOf (.obj n) st2 with
      | some (_, c2, _) => if c2 = c then sem (.obj n :: xs) st2 else .bad
      | none => .bad)
    | none => .bad)
  | none => .bad
theorem se_inst {M : Nat → Option FS} (hM : CallOk X.prog X.w X.K X.mg X.base cn k M) (tk : Takes X W) (hr : Room k X.A) (ho : SndE X cn W cl o mo) (ha : SndA X cn W cl (e :: es) ma)
    (ht : eval (.Call o (e :: es) [] pos) X.env = (do callWith pos (← eval o X.env) [] (backTo pos (starEach (e :: es) X.env)) (backToKw pos (keywordEach [] X.env))) := by rfl)
    (he : starEach (e :: es) X.env = (false, eval e X.env) :: starEach es X.env := by rfl) (hpl : (backTo pos (starEach es X.env)).any (·.1) = false := by rfl) :
    SndE X cn W cl (.Call o (e :: es) [] pos) (eInst M mo ma) := by
  refine ⟨fun pins s σ H Q I h => ?_⟩
  obtain ⟨r, env, st, Ex, at_, p⟩ := h
  refine Call_ (thn (ho.run pins s σ H _ I (tM_at at_ (PostE.bind p))) fun u s1 ⟨v, H1, I1, rv, r1, d, st1, g1, rs1, rd1, p1⟩ => ?_) ht
  cases e1 : insOf d st1 with
  | none => rw [e1] at p1; exact p1.elim
  | some z =>
    obtain ⟨n, c, fs⟩ := z
    rw [e1] at p1
    obtain ⟨_, hst2, a, dx, vs, ev, hrn, ha1, hl, hs⟩ := ins_at rs1 rd1 e1
    simp only at p1
    cases e2 : M c with
    | none => simp only [e2] at p1; exact p1.elim
    | some sem =>
      simp only [e2] at p1
      obtain ⟨f, hC, F⟩ := hM c sem e2
      subst ev
      obtain rfl : u = Value.ref a := rv
      refine StX.callO_with (thn (ha.run pos pins s1 σ H1 _ I1 (tMA_at (at_.grow g1 rs1) (PostE.bindA p1))) fun us s2 ⟨ws, H2, I2, r2, r3, ds3, st3, g3, rs3, rd3, p3⟩ => ?_) he hpl
      cases e4 : insOf (.obj n) st3 with
      | none => rw [e4] at p3; exact p3.elim
      | some z2 =>
        obtain ⟨n2, c2, fs2⟩ := z2
        rw [e4] at p3
        simp only at p3
        have hrn3 := (g3.kept (Ex := Ex)).1 _ _ hrn
        obtain ⟨e5, _, a2, dx2, vs2, ev2, hr2, ha2, _, _⟩ := ins_at (Ex := Ex) rs3 (.obj hrn3) e4
        by_cases hc : c2 = c
        · rw [if_pos hc] at p3
          subst hc
          cases e5
          cases ev2
          have hi : StX.InsC X H2 a (ca X.K cn c2) := .inr ⟨_, _, ha2⟩
          obtain ⟨ox, od, J, hd⟩ := StX.insC_at I2 hi
          refine ⟨⟨_, ox, od, J, hd⟩, ?_⟩
          refine wpAny_call (PySem.W.kco_code I2.kIn J hd hC.at_ hC.fn hC.fi (codeAny_mono (F.run X.A X.stack s2 H2 (.ref a :: us) (.ref a :: ws) Q (WE W σ) hr I2.env0 (.cons rfl r2) ⟨r3, .obj n :: ds3, st3, Ex, rs3, ((at_.grow g1 rs1).grow g3 rs3).xo, .cons (.obj hrn3) rd3, p3.slots fun _ _ _ z => z⟩) fun r s' hq => ?_))
          cases r with
          | error e => exact passAt tk σ pins H2 s2 e s' I2 hq
          | ok fl =>
            cases fl with
            | ret u => exact I2.after hq
            | next => exact False.elim hq
            | brk => exact False.elim hq
            | cont => exact False.elim hq
        · rw [if_neg hc] at p3; exact p3.elim
theorem callK_of {M : Model} {A : Around} {E : Value → Shared → Prop} {s : Shared} {a : Addr} {Q : Value → Shared → Prop} {args : List (Bool × Sem Value)} {kv : List (Option Str × Sem Value)} (hpl : (args.any (·.1) || kv.any (·.1.isNone)) = false)
    (h : wpAny M A (evalArgs (.ref a) true args kv) (fun z s1 => (∃ C ox od, PySem.W.InstAt s1.heap a ox C od ∧ ox.data = .plain) ∧ wpAny M A (call (.ref a) ([] ++ z.pos) z.kw) Q E s1) E s) : wpAny M A (callWith pos (.ref a) [] args kv) Q E s := by
  unfold callWith
  refine wpAny_bind (wpAny_holding (wpAny_mono h (fun z s1 hz => wpAny_bind (wpAny_standAt ?_)) fun _ _ y => y))
  obtain ⟨⟨C, ox, od, J, hd⟩, h1⟩ := hz
  simp only [hpl]
  refine wpAny_bind ((PySem.W.kco_keeper (M := M) J hd).here (wpAny_bind (wpAny_mono (wpAny_operateT h1) (fun v t ht => wpAny_bind (wpAny_holding (wpAny_point (wpAny_pure ht)))) fun _ _ y => y)))
abbrev CallKW (P : Program) (w : World) (K : PySem.W.Frag) (mg : Str → Option Value) (base : Heap) (cn : CN) (k : Nat) (ks : List Str) (M : Nat → Option FS) : Prop :=
  ∀ c sem, M c = some sem → ∃ f, StX.CallO K (ca K cn c) f ∧ FnKW P w K mg base cn f k 1 ks sem
theorem se_instK {M : Nat → Option FS} (hM : CallKW X.prog X.w X.K X.mg X.base cn k ks M) (tk : Takes X W) (hr : Room k X.A) (ho : SndE X cn W cl o mo) (hk : SndK X cn W cl kws mk)
    (ht : eval (.Call o [] kws pos) X.env = (do callWith pos (← eval o X.env) [] (backTo pos (starEach [] X.env)) (backToKw pos (keywordEach kws X.env))) := by rfl)
    (hall : (backToKw pos (keywordEach kws X.env)).all (·.1.isSome) = true := by rfl) (hks : (backToKw pos (keywordEach kws X.env)).filterMap (·.1) = ks := by rfl) (hpl : ((backTo pos (starEach [] X.env)).any (·.1) || (backToKw pos (keywordEach kws X.env)).any (·.1.isNone)) = false := by rfl) :
    SndE X cn W cl (.Call o [] kws pos) (eInst (fun c => (M c).map fun sem ds st => if ds.length = ks.length + 1 then sem ds st else .bad) mo mk) := by
  refine ⟨fun pins s σ H Q I h => ?_⟩
  obtain ⟨r, env, st, Ex, at_, p⟩ := h
  rw [ht]
  refine wpAny_bind (thn (ho.run pins s σ H _ I (tM_at at_ (PostE.bind p))) fun u s1 ⟨v, H1, I1, rv, r1, d, st1, g1, rs1, rd1, p1⟩ => ?_)
  cases e1 : insOf d st1 with
  | none => rw [e1] at p1; exact p1.elim
  | some z =>
    obtain ⟨n, c, fs⟩ := z
    rw [e1] at p1
    obtain ⟨_, hst2, a, dx, vs, ev, hrn, ha1, hl, hs⟩ := ins_at rs1 rd1 e1
    simp only at p1
    cases e2 : M c with
    | none => simp only [e2, Option.map_none] at p1; exact p1.elim
    | some sem =>
      simp only [e2, Option.map_some] at p1
      obtain ⟨f, hC, F⟩ := hM c sem e2
      subst ev
      obtain rfl : u = Value.ref a := rv
      refine callK_of hpl (evalArgs_kw2_nil hall (thn (hk.run pos pins s1 σ H1 _ I1 (tMA_at (at_.grow g1 rs1) (PostE.bindA p1))) fun us s2 ⟨ws, H2, I2, r2, r3, ds3, st3, g3, rs3, rd3, p3⟩ => ?_))
      cases e4 : insOf (.obj n) st3 with
      | none => rw [e4] at p3; exact p3.elim
      | some z2 =>
        obtain ⟨n2, c2, fs2⟩ := z2
        rw [e4] at p3
        simp only at p3
        have hrn3 := (g3.kept (Ex := Ex)).1 _ _ hrn
        obtain ⟨e5, _, a2, dx2, vs2, ev2, hr2, ha2, _, _⟩ := ins_at (Ex := Ex) rs3 (.obj hrn3) e4
        by_cases hc : c2 = c
        · rw [if_pos hc] at p3
          by_cases hlen : (D.obj n :: ds3).length = ks.length + 1
          · rw [if_pos hlen] at p3
            subst hc
            cases e5
            cases ev2
            have hi : StX.InsC X H2 a (ca X.K cn c2) := .inr ⟨_, _, ha2⟩
            obtain ⟨ox, od, J, hd⟩ := StX.insC_at I2 hi
            refine ⟨⟨_, ox, od, J, hd⟩, ?_⟩
            rw [hks]
            refine wpAny_call (PySem.W.kco_code I2.kIn J hd hC.at_ hC.fn hC.fi (codeAny_mono (F.run X.A X.stack s2 H2 [.ref a] us [.ref a] ws Q (WE W σ) hr I2.env0 (.cons rfl .nil) r2 rfl (by rw [← r2.length, rd3.length]; simpa using hlen) ⟨r3, .obj n :: ds3, st3, Ex, rs3, ((at_.grow g1 rs1).grow g3 rs3).xo, .cons (.obj hrn3) rd3, p3.slots fun _ _ _ z => z⟩) fun r s' hq => ?_))
            cases r with
            | error e => exact passAt tk σ pins H2 s2 e s' I2 hq
            | ok fl =>
              cases fl with
              | ret u => exact I2.after hq
              | next => exact False.elim hq
              | brk => exact False.elim hq
              | cont => exact False.elim hq
          · rw [if_neg hlen] at p3; exact p3.elim
        · rw [if_neg hc] at p3; exact p3.elim
end
end Fx

namespace Fx
open PySem PySem.Spec PySem.Calls PyProof.Rows L2

/-! ## methods of lists, as expressions -/
section
variable {X : Cx} {cn : CN} {W : WX} {cl : Bool} {pos apos p p2 pos' : Pos} {e o tg : Expr} {es : List Expr} {ma : MA} {mo me m : ME} {name : Str} {id : String} {rule : V → List V → Hp → VK → Prop} {op : LOp}
theorem tMA_nil {K : PySem.W.Frag} {Q : List V → Hp → Prop} {s : L2.St} {H : Hp} (h : tMA K cn W cl aNil s H Q) : Q [] H := by
  obtain ⟨r, env, st, Ex, at_, p⟩ := h
  exact p r [] H Grow.refl at_.rs .nil
theorem se_lm (sl : Slot "list" name id) (hty : typeOf (.builtin id) = pure (.type "method_descriptor")) (hm : MtR X id rule) (ok : LmOk rule op) (ho : SndE X cn W cl o mo) (ha : SndA X cn W cl (e :: es) ma)
    (hbase : attributeBase o name X.env (eval o X.env) = eval o X.env := by rfl)
    (hfew : ((backTo pos (starEach (e :: es) X.env)).all (fun x => !x.1) && (backToKw pos (keywordEach [] X.env)).all (fun x => x.1.isSome)
      && decide ((e :: es).length + ([] : List Keyword).length + (if ([] : List Keyword).isEmpty then 0 else 1) < 30)) = true := by rfl)
    (hline : (apos.endLine == pos.line) = true := by rfl) (hs : starEach (e :: es) X.env = (false, eval e X.env) :: starEach es X.env := by rfl) (hplain : (backTo pos (starEach es X.env)).any (·.1) = false := by rfl) :
    SndE X cn W cl (.Call (.Attribute o name apos) (e :: es) [] pos) (eLm op mo ma) := pe_imp (pe_bm PySem.F.plainAttrs_list sl hty hm ho ha hbase hfew hline hs hplain) (lm_run ok)
theorem se_lm0 (sl : Slot "list" name id) (hty : typeOf (.builtin id) = pure (.type "method_descriptor")) (hm : MtR X id rule) (ok : LmOk rule op) (ho : SndE X cn W cl o mo)
    (hbase : attributeBase o name X.env (eval o X.env) = eval o X.env := by rfl) (hline : (apos.endLine == pos.line) = true := by rfl) :
    SndE X cn W cl (.Call (.Attribute o name apos) [] [] pos) (eLm op mo aNil) := pe_imp (pe_bm0 PySem.F.plainAttrs_list sl hty hm ho hbase hline) fun s H Q h => by
  have h2 := lm_run ok s H Q h
  obtain ⟨r, env, st, Ex, at_, p⟩ := h2
  exact ⟨r, env, st, Ex, at_, p.mono fun v H1 ⟨ty, q⟩ => ⟨ty, tMA_nil q⟩⟩
/-- xs.index(k) of ints -/
theorem se_index (ho : SndE X cn W cl o mo) (ha : SndE X cn W cl e me)
    (hbase : attributeBase o "index" X.env (eval o X.env) = eval o X.env := by rfl)
    (hfew : ((backTo pos (starEach [e] X.env)).all (fun x => !x.1) && (backToKw pos (keywordEach [] X.env)).all (fun x => x.1.isSome)
      && decide ([e].length + ([] : List Keyword).length + (if ([] : List Keyword).isEmpty then 0 else 1) < 30)) = true := by rfl)
    (hline : (apos.endLine == pos.line) = true := by rfl) (hs : starEach [e] X.env = (false, eval e X.env) :: starEach [] X.env := by rfl) (hplain : (backTo pos (starEach [] X.env)).any (·.1) = false := by rfl) :
    SndE X cn W cl (.Call (.Attribute o "index" apos) [e] [] pos) (eIndex mo me) := pe_imp (pe_bm PySem.F.plainAttrs_list PySem.F.slot_list_index PySem.F.type_list_index mt_index ho (sa_cons ha sa_nil hs) hbase hfew hline hs hplain) fun s H Q ⟨r, env, st, Ex, at_, p⟩ =>
  tM_at at_ ((PostE.bind p).mono fun x H1 ⟨r1, d, st1, g1, rs1, rd1, p1⟩ => by
    cases e1 : lsOf st1 d with
    | none => rw [e1] at p1; exact p1.elim
    | some ds0 =>
      rw [e1] at p1
      obtain ⟨a, ws0, rfl, h2, _⟩ := ls_at rs1 rd1 e1
      refine ⟨.inl ⟨rfl, ws0, h2⟩, tMA_one (at_.grow g1 rs1) ((PostE.bind p1).mono fun y H2 ⟨r2, k, st2, g2, rs2, rd2, p2⟩ => ?_)⟩
      unfold fIndex at p2
      cases e2 : lsOf st2 d with
      | none => rw [e2] at p2; exact p2.elim
      | some ds =>
        rw [e2] at p2
        simp only [Option.bind] at p2
        cases e3 : intsD ds with
        | none => rw [e3] at p2; exact p2.elim
        | some ns =>
          rw [e3] at p2
          cases k with
          | int k =>
            simp only at p2
            cases rd2
            cases e4 : ns.findIdx? (fun n => decide (n = k)) with
            | none => rw [e4] at p2; exact p2.elim
            | some j =>
              rw [e4] at p2
              obtain ⟨a2, ws, ea, h3, h4⟩ := ls_at rs2 (g2.rd rd1) e2
              cases ea
              rw [ints_rel e3] at h4
              rw [h4.ints] at h3
              rw [List.findIdx?_eq_some_iff_getElem] at e4
              obtain ⟨hj, hk, hno⟩ := e4
              refine ⟨a, ns.map V.int, .int k, j, .int ns[j], rfl, rfl, h3, rfl, by rw [List.all_map]; exact List.all_eq_true.mpr fun _ _ => rfl, by rw [List.getElem?_map, List.getElem?_eq_getElem hj]; rfl, ?_, fun m z hm hz => ?_, PostE.here p2 rs2 (.int _)⟩
              · have := of_decide_eq_true hk
                rw [this]; simp [eqV]
              · have hml : m < ns.length := by omega
                rw [List.getElem?_map, List.getElem?_eq_getElem hml] at hz
                cases hz
                have := hno m hm
                simp only [decide_eq_true_eq] at this
                simp [eqV, this]
          | _ => exact p2.elim)

/-! ## a, b = e -/
def mTgt (t : Tg) (m : ME) : MS := fun env st => (m env st).stm env fun d st1 => match tgF t d env with
  | some env1 => .nx env1 st1
  | none => .bad
theorem StOk.tgt {K : PySem.W.Frag} {Ex : Addr → Prop} {r0 r : List Addr} {H0 H : Hp} {env env1 : SEnv} {s s' : L2.St} {st : Sto} (o : StOk K cn Ex r0 H0 r env st s H) (eo : EnvOk K cn Ex r H env1 s') (ow : ∀ a, Own env1 s' a → Own env s a) : StOk K cn Ex r0 H0 r env1 st s' H := ⟨o.gr, o.rs, eo, fun a h => o.fr a (ow a h), o.xo⟩
theorem ss_tgt {t : Tg} (he : SndE X cn W true e m) (hg : PG X tg (tgG X.K t))
    (hs : swapsWithSole [tg] e pos.line X.env = pure false := by rfl) (hw : swappedStores [tg] e X.env = pure none := by rfl) (h1 : (assignEach [tg] X.env).map (·.2) = [assign tg X.env] := by rfl) :
    SndS X cn W (.Assign [tg] e pos) (mTgt t m) := ps_imp (ps_asg he hg hs hw h1) fun Dn s H ⟨r0, H0, r, env, st, Ex, o, p⟩ =>
  tM_at o.at_ ((PostS.ofE (cl := true) o p).mono fun v H1 ⟨r1, d, st1, g, o1, rd, p1⟩ => by
    cases e1 : tgF t d env with
    | none => rw [e1] at p1; exact p1.elim
    | some env1 =>
      rw [e1] at p1
      exact tg_rel o1.eo rd.ownx e1 fun s' eo ow _ => p1 r1 s' H1 (o1.tgt eo ow))
end

/-! ## tables of methods called by keywords, of called instances -/
section
variable {P : Program} {w : World} {K : PySem.W.Frag} {mg : Str → Option Value} {base : Heap} {cn : CN} {m : Str} {k np i : Nat} {ks : List Str} {l : List (Nat × FS)} {sem : FS} {f : Addr}
theorem tab_cons {c : Nat} {s : FS} (e : tab ((i, sem) :: l) c = some s) : (c = i ∧ s = sem) ∨ tab l c = some s := by
  unfold tab at e ⊢
  rw [List.lookup_cons] at e
  by_cases q : c = i
  · subst q; simp at e; exact .inl ⟨rfl, e.symm⟩
  · have : (c == i) = false := by simpa using q
    rw [this] at e; exact .inr e
theorem mkw_nil : MethKW P w K mg base cn m k np ks (tab []) := fun c sem h => by cases h
theorem mkw_cons (h1 : Cls K (ca K cn i)) (h2 : Meth K (ca K cn i) m f) (h3 : FnKW P w K mg base cn f k (np + 1) ks sem) (h : MethKW P w K mg base cn m k np ks (tab l)) : MethKW P w K mg base cn m k np ks (tab ((i, sem) :: l)) := fun c s e => by
  rcases tab_cons e with ⟨rfl, rfl⟩ | e
  · exact ⟨f, h1, h2, h3⟩
  · exact h c s e
theorem callo_nil : CallOk P w K mg base cn k (tab []) := fun c sem h => by cases h
theorem callo_cons (h2 : Meth K (ca K cn i) "__call__" f) (hfi : PySem.W.fnIn K f = true) (h3 : FnT P w K mg base cn f k sem) (h : CallOk P w K mg base cn k (tab l)) : CallOk P w K mg base cn k (tab ((i, sem) :: l)) := fun c s e => by
  rcases tab_cons e with ⟨rfl, rfl⟩ | e
  · exact ⟨f, ⟨h2.at_, h2.fn, hfi⟩, h3⟩
  · exact h c s e
theorem ckw_nil : CallKW P w K mg base cn k ks (tab []) := fun c sem h => by cases h
theorem ckw_cons (h2 : Meth K (ca K cn i) "__call__" f) (hfi : PySem.W.fnIn K f = true) (h3 : FnKW P w K mg base cn f k 1 ks sem) (h : CallKW P w K mg base cn k ks (tab l)) : CallKW P w K mg base cn k ks (tab ((i, sem) :: l)) := fun c s e => by
  rcases tab_cons e with ⟨rfl, rfl⟩ | e
  · exact ⟨f, ⟨h2.at_, h2.fn, hfi⟩, h3⟩
  · exact h c s e
theorem fnIn_of {x qual : Str} {params : Arguments} {body : List Stmt} {scope : Scope} (F : ∃ fd, FunD K x qual params body scope [] [] f fd) : PySem.W.fnIn K f = true := by
  obtain ⟨fd, F⟩ := F
  obtain ⟨oc, od, dV, kV, doc, pm, an, cdv, ct, osl, rfl, lk, _⟩ := F.ex
  unfold PySem.W.fnIn
  rw [lk]
end
end Fx

namespace Fx
open PySem PySem.Spec PyProof.Rows
/-! ## plain: what is generalized, told -/
theorem for_gen {t : Tg} {mb : MS} {ds : List D} {env : SEnv} {st : Sto} {x : RS} (hx : forGo t mb ds env st = x) (I : Nat → SEnv → Sto → Prop) (B : SEnv → Sto → Prop) (T : D → Sto → Prop) (h0 : I 0 env st)
    (hs : ∀ i x env st, ds[i]? = some x → I i env st → ∃ env1, tgF t x env = some env1 ∧ ((∃ env2 st2, (mb env1 st = .nx env2 st2 ∨ mb env1 st = .ct env2 st2) ∧ I (i + 1) env2 st2) ∨ (∃ env2 st2, mb env1 st = .bk env2 st2 ∧ B env2 st2) ∨ ∃ d st2, mb env1 st = .rt d st2 ∧ T d st2)) :
    (∃ e s, x = .nx e s ∧ (I ds.length e s ∨ B e s)) ∨ ∃ d s, x = .rt d s ∧ T d s := by
  subst hx
  have := forGo_gen I B T ds 0 env st h0 (fun i x env st h1 h2 => by rw [Nat.zero_add] at h2 ⊢; exact hs i x env st h1 h2)
  simpa using this
theorem for_inv {t : Tg} {mb : MS} {ds : List D} {env : SEnv} {st : Sto} {x : RS} (hx : forGo t mb ds env st = x) (I : Nat → SEnv → Sto → Prop) (h0 : I 0 env st)
    (hs : ∀ i x env st, ds[i]? = some x → I i env st → ∃ env1, tgF t x env = some env1 ∧ ∃ env2 st2, (mb env1 st = .nx env2 st2 ∨ mb env1 st = .ct env2 st2) ∧ I (i + 1) env2 st2) :
    ∃ e s, x = .nx e s ∧ I ds.length e s := by
  subst hx
  exact forGo_inv I ds env st h0 hs
theorem lc_gen {α : Type} {ck : Bool} {i : Nat} {mt me : ME} {vs : List Nat} {env : SEnv} {st : Sto} {x : R (List D)} (e : α → D) (xs : List α) (p : α → Bool) (g : α → D) (hx : lc1 ck (.nm i) mt me vs env (.ok (xs.map e) st) = x) (hz : xs.length ≤ 100000) (hn : ck = true → ∀ a ∈ xs, noLst (e a) = true)
    (h1 : ∀ a ∈ xs, mt ((wipeE env vs).set i (.val (e a))) st = .ok (.bl (p a)) st) (h2 : ∀ a ∈ xs, p a = true → me ((wipeE env vs).set i (.val (e a))) st = .ok (g a) st) : x = .ok ((xs.filter p).map g) st := by
  subst hx
  refine lc1_ok ?_ (sz_lit (by rw [List.length_map]; exact Nat.le_trans (List.length_filter_le _ _) hz))
  clear hz
  generalize wipeE env vs = env' at h1 h2
  induction xs with
  | nil => rfl
  | cons a xs ih =>
    have ih := ih (fun c b hb => hn c b (List.mem_cons_of_mem _ hb)) (fun b hb => h1 b (List.mem_cons_of_mem _ hb)) fun b hb => h2 b (List.mem_cons_of_mem _ hb)
    have e1 := h1 a (List.mem_cons_self ..)
    have e0 : (ck && !noLst (e a)) = false := by
      cases ck with
      | false => rfl
      | true => rw [hn rfl a (List.mem_cons_self ..)]; rfl
    simp only [List.map_cons, lcGo, e0, Bool.false_eq_true, if_false, tgF, e1, lc_pf.bind_ok_]
    by_cases q : p a = true
    · have e2 := h2 a (List.mem_cons_self ..) q
      simp only [q, if_true, e2, lc_pf.bind_ok_, ih, List.filter_cons_of_pos q, List.map_cons]
    · simp only [q, if_false, ih, List.filter_cons_of_neg q, Bool.false_eq_true]
/-- two targets -/
theorem lc_gen2 {α : Type} {ck : Bool} {i j : Nat} {mt me : ME} {vs : List Nat} {env : SEnv} {st : Sto} {x : R (List D)} (e1 e2 : α → D) (xs : List α) (p : α → Bool) (g : α → D) (hx : lc1 ck (.tp [i, j]) mt me vs env (.ok (xs.map fun a => .tup [e1 a, e2 a]) st) = x) (hz : xs.length ≤ 100000) (hn : ck = true → ∀ a ∈ xs, noLst (.tup [e1 a, e2 a]) = true)
    (h1 : ∀ a ∈ xs, mt (((wipeE env vs).set i (.val (e1 a))).set j (.val (e2 a))) st = .ok (.bl (p a)) st) (h2 : ∀ a ∈ xs, p a = true → me (((wipeE env vs).set i (.val (e1 a))).set j (.val (e2 a))) st = .ok (g a) st) : x = .ok ((xs.filter p).map g) st := by
  subst hx
  refine lc1_ok ?_ (sz_lit (by rw [List.length_map]; exact Nat.le_trans (List.length_filter_le _ _) hz))
  clear hz
  generalize wipeE env vs = env' at h1 h2
  induction xs with
  | nil => rfl
  | cons a xs ih =>
    have ih := ih (fun c b hb => hn c b (List.mem_cons_of_mem _ hb)) (fun b hb => h1 b (List.mem_cons_of_mem _ hb)) fun b hb => h2 b (List.mem_cons_of_mem _ hb)
    have q1 := h1 a (List.mem_cons_self ..)
    have q0 : (ck && !noLst (.tup [e1 a, e2 a])) = false := by
      cases ck with
      | false => rfl
      | true => rw [hn rfl a (List.mem_cons_self ..)]; rfl
    simp only [List.map_cons, lcGo, q0, Bool.false_eq_true, if_false, tgF, List.length_cons, List.length_nil, if_true, setAll, q1, lc_pf.bind_ok_]
    by_cases q : p a = true
    · have q2 := h2 a (List.mem_cons_self ..) q
      simp only [q, if_true, q2, lc_pf.bind_ok_, ih, List.filter_cons_of_pos q, List.map_cons]
    · simp only [q, if_false, ih, List.filter_cons_of_neg q, Bool.false_eq_true]
def natD (i : Nat) : D := .int (i : Int)
theorem rng_nat (n : Nat) : rngD 0 n = (List.range n).map natD := by simp [rngD, natD]
@[simp] theorem noLst_nat (i : Nat) : noLst (natD i) = true := rfl
@[simp] theorem noLst_int (i : Int) : noLst (.int i) = true := rfl
@[simp] theorem noLst_str (i : Str) : noLst (.str i) = true := rfl
@[simp] theorem noLst_bl (i : Bool) : noLst (.bl i) = true := rfl
@[simp] theorem noLst_non : noLst .non = true := rfl
@[simp] theorem noLst_obj (i : Nat) : noLst (.obj i) = true := rfl
@[simp] theorem noLst_err (i : Str) : noLst (.err i) = true := rfl
@[simp] theorem noLst_tup (ds : List D) : noLst (.tup ds) = noLsts ds := by rw [noLst]
@[simp] theorem noLsts_nil : noLsts [] = true := rfl
@[simp] theorem noLsts_cons (d : D) (ds : List D) : noLsts (d :: ds) = (noLst d && noLsts ds) := by rw [noLsts]
@[simp] theorem noLst_ent (e : Ent) : noLst e.D = true := by cases e <;> rfl
theorem noLsts_map {α : Type} {f : α → D} {xs : List α} (h : ∀ x ∈ xs, noLst (f x) = true) : noLsts (xs.map f) = true := noLsts_of fun d hd => by
  obtain ⟨x, hx, rfl⟩ := List.mem_map.mp hd
  exact h x hx
@[simp] theorem noLst_acc (es : List Ent) : noLst (accD es) = true := by
  show noLst (.tup _) = true
  rw [noLst_tup]; exact noLsts_map fun _ _ => noLst_ent _
/-! ## the new constructs, staged -/
@[simp] theorem cleanE_nil : cleanE [] = [] := rfl
@[simp] theorem cleanE_cons (x : SV) (xs : SEnv) : cleanE (x :: xs) = cleanV x :: cleanE xs := rfl
@[simp] theorem cleanV_val (d : D) : cleanV (.val d) = if noLst d = true then .val d else .un := rfl
@[simp] theorem cleanV_own (d : List D) : cleanV (.own d) = .un := rfl
@[simp] theorem cleanV_un : cleanV .un = .un := rfl
def adopt1 : R D → R D
  | .ok (.lst ds) st1 => if noLsts ds = true then .ok (.obj st1.length) (st1 ++ [.lst ds]) else .bad
  | .exc c f st1 => .exc c f st1
  | _ => .bad
section
variable {env : SEnv} {st : Sto} {m mo : ME} {ma mk : MA} {n c i : Nat} {fs : List (Str × D)} {sem : FS} {M : Nat → Option FS} {d : D} {ds xs : List D} {name : Str} {op : LOp}
@[simp] theorem pv_adopt : eAdopt m env st = adopt1 (m (cleanE env) st) := by
  unfold eAdopt adopt1
  cases m (cleanE env) st with
  | ok d st1 => cases d <;> rfl
  | _ => rfl
theorem adopt1_ok (h : noLsts ds = true) : adopt1 (.ok (.lst ds) st) = .ok (.obj st.length) (st ++ [.lst ds]) := by simp only [adopt1, h, if_true]
@[simp] theorem adopt1_exc {c : Nat} {f : List (Str × D)} : adopt1 (.exc c f st) = .exc c f st := rfl
def lm2 (op : LOp) (n : Nat) : R (List D) → R D
  | .ok xs st2 => (match st2[n]? with
    | some (.lst ds) => (match op ds xs with
      | some (res, es) => .ok res (st2.set n (.lst es))
      | none => .bad)
    | _ => .bad)
  | .exc c f st => .exc c f st
  | .bad => .bad
def lm1 (op : LOp) (ma : MA) (env : SEnv) : R D → R D
  | .ok (.obj n) st1 => (match st1[n]? with
    | some (.lst _) => lm2 op n (ma env st1)
    | _ => .bad)
  | .exc c f st => .exc c f st
  | _ => .bad
@[simp] theorem pv_lm : eLm op mo ma env st = lm1 op ma env (mo env st) := by
  unfold eLm lm1
  cases mo env st with
  | ok d st1 =>
    cases d with
    | obj n =>
      show (match st1[n]? with
        | some (.lst _) => (ma env st1).bind fun xs st2 => (match st2[n]? with
          | some (.lst ds) => (match op ds xs with
            | some (res, es) => .ok res (st2.set n (.lst es))
            | none => .bad)
          | _ => .bad)
        | _ => .bad) = (match st1[n]? with
        | some (.lst _) => lm2 op n (ma env st1)
        | _ => .bad)
      cases st1[n]? with
      | none => rfl
      | some mo =>
        cases mo with
        | lst ds => show (ma env st1).bind _ = lm2 op n (ma env st1); cases ma env st1 <;> rfl
        | _ => rfl
    | _ => rfl
  | _ => rfl
theorem lm1_ok (h : st[n]? = some (.lst ds)) : lm1 op ma env (.ok (.obj n) st) = lm2 op n (ma env st) := by simp only [lm1, h]
theorem lm2_ok {res : D} {es : List D} (h : st[n]? = some (.lst ds)) (ho : op ds xs = some (res, es)) : lm2 op n (.ok xs st) = .ok res (st.set n (.lst es)) := by simp only [lm2, h, ho]
@[simp] theorem pv_sortLam : eSortLam i m env st = un1 (fun d st1 => match env[i]? with
  | some (.val (.tup rows)) => fSortLam rows d st1
  | _ => .bad) (m env st) := by
  unfold eSortLam un1
  cases m env st <;> rfl
/-! methods, called instances -/
def meth1 (name : Str) (M : Nat → Option FS) (ma : MA) (env : SEnv) : R D → R D
  | .ok d st1 => (match insOf d st1 with
    | some (n, c, fs) => (match M c, fs.lookup name with
      | some sem, none => call1 (fun xs st2 => sem (.obj n :: xs) st2) (ma env st1)
      | _, _ => .bad)
    | none => .bad)
  | .exc c f st => .exc c f st
  | .bad => .bad
@[simp] theorem pv_meth : eMeth name M mo ma env st = meth1 name M ma env (mo env st) := by
  unfold eMeth meth1
  cases mo env st with
  | ok d st1 =>
    simp only [R.bind]
    cases insOf d st1 with
    | none => rfl
    | some z =>
      obtain ⟨n, c, fs⟩ := z
      simp only
      cases M c with
      | none => rfl
      | some sem =>
        cases fs.lookup name with
        | some _ => rfl
        | none => simp only [call1]; cases ma env st1 <;> rfl
  | _ => rfl
theorem meth1_ok (h : st[n]? = some (.ins c fs)) (hM : M c = some sem) (hl : fs.lookup name = none) : meth1 name M ma env (.ok (.obj n) st) = call1 (fun xs st2 => sem (.obj n :: xs) st2) (ma env st) := by simp only [meth1, insOf_ok h, hM, hl]
def methK3 (np nk : Nat) (sem : FS) (n : Nat) (xs : List D) : R (List D) → R D
  | .ok zs st3 => if (decide (xs.length = np) && decide (zs.length = nk)) = true then sem (.obj n :: (xs ++ zs)) st3 else .bad
  | .exc c f st => .exc c f st
  | .bad => .bad
def methK2 (np nk : Nat) (sem : FS) (n : Nat) (mk : MA) (env : SEnv) : R (List D) → R D
  | .ok xs st2 => methK3 np nk sem n xs (mk env st2)
  | .exc c f st => .exc c f st
  | .bad => .bad
def methK1 (name : Str) (np nk : Nat) (M : Nat → Option FS) (ma mk : MA) (env : SEnv) : R D → R D
  | .ok d st1 => (match insOf d st1 with
    | some (n, c, fs) => (match M c, fs.lookup name with
      | some sem, none => methK2 np nk sem n mk env (ma env st1)
      | _, _ => .bad)
    | none => .bad)
  | .exc c f st => .exc c f st
  | .bad => .bad
@[simp] theorem pv_methK {np nk : Nat} : eMethK name np nk M mo ma mk env st = methK1 name np nk M ma mk env (mo env st) := by
  unfold eMethK methK1
  cases mo env st with
  | ok d st1 =>
    simp only [R.bind]
    cases insOf d st1 with
    | none => rfl
    | some z =>
      obtain ⟨n, c, fs⟩ := z
      simp only
      cases M c with
      | none => rfl
      | some sem =>
        cases fs.lookup name with
        | some _ => rfl
        | none =>
          simp only [methK2]
          cases ma env st1 with
          | ok xs st2 => simp only [methK3]; cases mk env st2 <;> rfl
          | _ => rfl
  | _ => rfl
theorem methK1_ok {np nk : Nat} (h : st[n]? = some (.ins c fs)) (hM : M c = some sem) (hl : fs.lookup name = none) : methK1 name np nk M ma mk env (.ok (.obj n) st) = methK2 np nk sem n mk env (ma env st) := by simp only [methK1, insOf_ok h, hM, hl]
@[simp] theorem methK2_ok {np nk : Nat} : methK2 np nk sem n mk env (.ok xs st) = methK3 np nk sem n xs (mk env st) := rfl
@[simp] theorem methK3_ok {np nk : Nat} {zs : List D} : methK3 np nk sem n xs (.ok zs st) = if (decide (xs.length = np) && decide (zs.length = nk)) = true then sem (.obj n :: (xs ++ zs)) st else .bad := rfl
def inst2 (sem : FS) (n c : Nat) : R (List D) → R D
  | .ok xs st2 => (match insOf (.obj n) st2 with
    | some (_, c2, _) => if c2 = c then sem (.obj n :: xs) st2 else .bad
    | none => .bad)
  | .exc c f st => .exc c f st
  | .bad => .bad
def inst1 (M : Nat → Option FS) (ma : MA) (env : SEnv) : R D → R D
  | .ok d st1 => (match insOf d st1 with
    | some (n, c, fs) => (match M c with
      | some sem => inst2 sem n c (ma env st1)
      | none => .bad)
    | none => .bad)
  | .exc c f st => .exc c f st
  | .bad => .bad
@[simp] theorem pv_inst : eInst M mo ma env st = inst1 M ma env (mo env st) := by
  unfold eInst inst1
  cases mo env st with
  | ok d st1 =>
    simp only [R.bind]
    cases insOf d st1 with
    | none => rfl
    | some z =>
      obtain ⟨n, c, fs⟩ := z
      simp only
      cases M c with
      | none => rfl
      | some sem => simp only [inst2]; cases ma env st1 <;> rfl
  | _ => rfl
theorem inst1_ok (h : st[n]? = some (.ins c fs)) (hM : M c = some sem) : inst1 M ma env (.ok (.obj n) st) = inst2 sem n c (ma env st) := by simp only [inst1, insOf_ok h, hM]
theorem inst2_ok (h : st[n]? = some (.ins c fs)) : inst2 sem n c (.ok xs st) = sem (.obj n :: xs) st := by simp only [inst2, insOf_ok h, if_true]
def tgt1 (t : Tg) (env : SEnv) : R D → RS
  | .ok d st => (match tgF t d env with
    | some env1 => .nx env1 st
    | none => .bad)
  | .exc c f st => .exc c f env st
  | .bad => .bad
@[simp] theorem ps_tgt {t : Tg} : mTgt t m env st = tgt1 t env (m env st) := by
  unfold mTgt tgt1
  cases m env st <;> rfl
@[simp] theorem tgt1_ok {t : Tg} : tgt1 t env (.ok d st) = match tgF t d env with
  | some env1 => .nx env1 st
  | none => .bad := rfl
def index1 (me : ME) (env : SEnv) : R D → R D
  | .ok x st1 => (match lsOf st1 x with
    | some _ => un1 (fun k st2 => fIndex x k st2) (me env st1)
    | none => .bad)
  | .exc c f st => .exc c f st
  | .bad => .bad
@[simp] theorem pv_index {me : ME} : eIndex mo me env st = index1 me env (mo env st) := by
  unfold eIndex index1
  cases mo env st with
  | ok d st1 =>
    simp only [R.bind]
    cases lsOf st1 d with
    | none => rfl
    | some z => simp only [un1]; cases me env st1 <;> rfl
  | _ => rfl
@[simp] theorem index1_l {me : ME} : index1 me env (.ok (.lst ds) st) = un1 (fun k st2 => fIndex (.lst ds) k st2) (me env st) := rfl
end
end Fx

namespace Fx
open PySem PySem.Spec PyProof.Rows
/-! ## accounts, typed: the line -/
def Ent.live : Ent → Bool
  | .str => false | _ => true
def Ent.isB : Ent → Bool
  | .bill _ _ => true | _ => false
def Ent.day : Ent → Int
  | .str => 0 | .bill d _ => d | .pay d _ => d | .nam d _ _ => d
def Ent.amt : Ent → Int
  | .str => 0 | .bill _ s => s | .pay _ s => s | .nam _ s _ => s
def at_ (es : List Ent) (i : Nat) : Ent := es.getD i .str
theorem at_lt {es : List Ent} {i : Nat} (h : i < es.length) : es[i]? = some (at_ es i) := by
  unfold at_
  rw [List.getD_eq_getElem?_getD, List.getElem?_eq_getElem h]; rfl
theorem at_live {es : List Ent} {i : Nat} (h : (at_ es i).live = true) : i < es.length := by
  refine Classical.byContradiction fun z => ?_
  unfold at_ at h
  rw [List.getD_eq_getElem?_getD, List.getElem?_eq_none (by omega)] at h
  cases h
theorem ix_acc {es : List Ent} {i : Nat} {st : Sto} (h : i < es.length) : fIx (accD es) (.int (i : Int)) st = .ok (at_ es i).D st := fIx_t (atI_nat (by rw [List.getElem?_map, at_lt h]; rfl))
theorem ix_accN {es : List Ent} {i : Nat} {st : Sto} (h : i < es.length) : fIx (accD es) (natD i) st = .ok (at_ es i).D st := ix_acc h
theorem ix_0 (e : Ent) (st : Sto) : fIx e.D (.int 0) st = .ok (.str e.word) st := by cases e <;> rfl
theorem ix_1 {e : Ent} (h : e.live = true) (st : Sto) : fIx e.D (.int 1) st = .ok (.int e.day) st := by cases e <;> first | rfl | cases h
theorem ix_2 {e : Ent} (h : e.live = true) (st : Sto) : fIx e.D (.int 2) st = .ok (.int e.amt) st := by cases e <;> first | rfl | cases h
theorem word_str (e : Ent) : decide (e.word = ("struck" : Str)) = !e.live := by cases e <;> simp [Ent.word, Ent.live, w_bs, w_ps, w_ns]
theorem word_bill (e : Ent) : decide (e.word = ("bill" : Str)) = e.isB := by cases e <;> simp [Ent.word, Ent.isB, w_sb, w_pb, w_nb]
def idxT (es : List Ent) : List Nat := (List.range es.length).filter fun i => (at_ es i).live
def keysT (es : List Ent) : List (Int × Nat) := (idxT es).map fun i => ((at_ es i).day, i)
def lineT (es : List Ent) : List Nat := ((keysT es).mergeSort leK).map (·.2)
def enteredT (es : List Ent) : List Nat := (lineT es).mergeSort fun a b => decide (a ≤ b)
theorem idxT_mem {es : List Ent} {i : Nat} : i ∈ idxT es ↔ (at_ es i).live = true := by
  unfold idxT
  rw [List.mem_filter, List.mem_range]
  exact ⟨fun h => h.2, fun h => ⟨at_live h, h⟩⟩
theorem lineT_perm (es : List Ent) : (lineT es).Perm (idxT es) := by
  unfold lineT
  refine ((List.mergeSort_perm ..).map _).trans ?_
  unfold keysT
  rw [List.map_map]
  have : ((fun x : Int × Nat => x.2) ∘ fun i => ((at_ es i).day, i)) = id := rfl
  rw [this, List.map_id]
theorem lineT_mem {es : List Ent} {i : Nat} : i ∈ lineT es ↔ (at_ es i).live = true := (lineT_perm es).mem_iff.trans idxT_mem
theorem lineT_len (es : List Ent) : (lineT es).length ≤ es.length := by
  rw [(lineT_perm es).length_eq]
  unfold idxT
  exact Nat.le_trans (List.length_filter_le _ _) (by simp)
theorem idxT_nodup (es : List Ent) : (idxT es).Nodup := List.nodup_range.filter _
theorem lineT_nodup (es : List Ent) : (lineT es).Nodup := (lineT_perm es).nodup_iff.mpr (idxT_nodup es)
theorem enteredT_perm (es : List Ent) : (enteredT es).Perm (lineT es) := List.mergeSort_perm ..
theorem enteredT_mem {es : List Ent} {i : Nat} : i ∈ enteredT es ↔ (at_ es i).live = true := (enteredT_perm es).mem_iff.trans lineT_mem
theorem natD_ints (l : List Nat) : intsD (l.map natD) = some (l.map fun (i : Nat) => (i : Int)) := by
  induction l with
  | nil => rfl
  | cons a l ih => simp only [List.map_cons, natD, intsD] at ih ⊢; rw [ih]; rfl
theorem fSort_nat (l : List Nat) (st : Sto) : fSort (.lst (l.map natD)) st = .ok (.lst ((l.mergeSort fun a b => decide (a ≤ b)).map natD)) st := by
  simp only [fSort, lsOf, Option.bind, sortL, natD_ints]
  congr 2
  have := mergeSort_map_ (f := fun (i : Nat) => (i : Int)) (le := fun a b => decide (a ≤ b)) l
  rw [← this, List.map_map]
  congr 1
  congr 1
  funext a b
  exact decide_eq_decide.mpr (by omega)
theorem keysD_acc (es : List Ent) : ∀ l : List Nat, (∀ i ∈ l, (at_ es i).live = true) → keysD (es.map Ent.D) (l.map natD) = some (l.map fun i => ((at_ es i).day, i))
  | [], _ => rfl
  | i :: l, h => by
    have ih := keysD_acc es l fun j hj => h j (List.mem_cons_of_mem _ hj)
    have hi := h i (List.mem_cons_self ..)
    have e1 : (es.map Ent.D)[i]?.bind dayD = some (at_ es i).day := by
      rw [List.getElem?_map, at_lt (at_live hi)]
      cases e : at_ es i with
      | str => rw [e] at hi; cases hi
      | _ => rfl
    simp only [List.map_cons, natD, keysD] at ih ⊢
    rw [if_pos (by omega)]
    simp only [Int.toNat_natCast, e1]
    rw [ih]
theorem sortLam_acc (es : List Ent) (st : Sto) : fSortLam (es.map Ent.D) (.lst ((idxT es).map natD)) st = .ok (.lst ((lineT es).map natD)) st := by
  simp only [fSortLam, lsOf, Option.bind]
  rw [keysD_acc es _ fun i hi => idxT_mem.mp hi]
  simp only [lineT, keysT, List.map_map]
  rfl
theorem leR_pair (a b : Int × Nat) : leR [a.1, (a.2 : Int)] [b.1, (b.2 : Int)] = leK a b := by
  have h := congrFun (congrFun (PySem.W.dataLe_ii (β := Int × Nat) (fun q => q.1) (fun q => (q.2 : Int))) a) b
  unfold leR leK
  refine (Eq.trans ?_ h).trans (decide_eq_decide.mpr (by omega))
  rfl
/-- the law's way to the line: rows of day and index -/
theorem along_acc (es : List Ent) (st : Sto) : fSort (.lst ((idxT es).map fun i => .tup [.int (at_ es i).day, natD i])) st = .ok (.lst (((keysT es).mergeSort leK).map fun k => .tup [.int k.1, natD k.2])) st := by
  have e0 : ((idxT es).map fun i => D.tup [.int (at_ es i).day, natD i]) = ((keysT es).map fun k => [k.1, (k.2 : Int)]).map rowD := by
    unfold keysT
    rw [List.map_map, List.map_map]; rfl
  have e1 : rowsI (((keysT es).map fun k => [k.1, (k.2 : Int)]).map rowD) = some ((keysT es).map fun k => [k.1, (k.2 : Int)]) := by
    induction keysT es with
    | nil => rfl
    | cons k ks ih => simp only [List.map_cons, rowsI, rowI, rowD, intsD, ih]; rfl
  have e2 : (keysT es = [] → intsD (((keysT es).map fun k => [k.1, (k.2 : Int)]).map rowD) = some []) ∧ (keysT es ≠ [] → intsD (((keysT es).map fun k => [k.1, (k.2 : Int)]).map rowD) = none) := by
    cases keysT es with
    | nil => exact ⟨(fun _ => rfl), (fun h => absurd rfl h)⟩
    | cons k ks => exact ⟨(fun h => (nomatch h)), (fun _ => rfl)⟩
  simp only [fSort, lsOf, Option.bind, sortL, e0]
  by_cases hk : keysT es = []
  · rw [e2.1 hk, hk]; simp
  · rw [e2.2 hk]
    simp only [e1]
    rw [if_pos (by rw [List.all_map]; exact List.all_eq_true.mpr fun _ _ => rfl)]
    simp only
    have := mergeSort_map_ (f := fun k : Int × Nat => [k.1, (k.2 : Int)]) (le := leR) (keysT es)
    rw [← this, List.map_map]
    have e3 : (fun a b : Int × Nat => leR [a.1, (a.2 : Int)] [b.1, (b.2 : Int)]) = leK := by
      funext a b; exact leR_pair a b
    rw [e3]
    rfl
end Fx

namespace Fx
open PySem PySem.Spec PyProof.Rows
/-! ## layings, typed -/
inductive Ch where
  | old | new | gre | lea
deriving DecidableEq
def Ch.s : Ch → Str
  | .old => "oldest" | .new => "newest" | .gre => "greatest" | .lea => "least"
theorem ch_old (c : Ch) : decide (c.s = ("oldest" : Str)) = decide (c = .old) := by cases c <;> decide
theorem ch_new (c : Ch) : decide (c.s = ("newest" : Str)) = decide (c = .new) := by cases c <;> decide
theorem ch_gre (c : Ch) : decide (c.s = ("greatest" : Str)) = decide (c = .gre) := by cases c <;> decide
theorem ch_lea (c : Ch) : decide (c.s = ("least" : Str)) = decide (c = .lea) := by cases c <;> decide
abbrev Rs := List Int
def rt (rs : Rs) (i : Nat) : Int := rs.getD i 0
theorem rt_set_ne {rs : Rs} {i j : Nat} {v : Int} (h : j ≠ i) : rt (rs.set i v) j = rt rs j := by
  unfold rt
  rw [List.getD_eq_getElem?_getD, List.getD_eq_getElem?_getD, List.getElem?_set_ne (fun e => h e.symm)]
theorem rt_set_eq {rs : Rs} {i : Nat} {v : Int} (h : i < rs.length) : rt (rs.set i v) i = v := by
  unfold rt
  rw [List.getD_eq_getElem?_getD, List.getElem?_set_self h]; rfl
theorem rt_lt {rs : Rs} {i : Nat} (h : rt rs i ≠ 0) : i < rs.length := by
  refine Classical.byContradiction fun z => h ?_
  unfold rt
  rw [List.getD_eq_getElem?_getD, List.getElem?_eq_none (by omega)]; rfl
theorem rt_get {rs : Rs} {i : Nat} (h : i < rs.length) : rs[i]? = some (rt rs i) := by
  unfold rt
  rw [List.getD_eq_getElem?_getD, List.getElem?_eq_getElem h]; rfl
def rsD (rs : Rs) : D := .lst (rs.map D.int)
theorem ix_rs {rs : Rs} {i : Nat} {st : Sto} (h : i < rs.length) : fIx (rsD rs) (.int (i : Int)) st = .ok (.int (rt rs i)) st := fIx_l (atI_nat (by rw [List.getElem?_map, rt_get h]; rfl))
theorem ix_rsN {rs : Rs} {i : Nat} {st : Sto} (h : i < rs.length) : fIx (rsD rs) (natD i) st = .ok (.int (rt rs i)) st := ix_rs h
def openBs (es : List Ent) (rs : Rs) (al : List Nat) : List Nat := al.filter fun o => (at_ es o).isB && decide (0 < rt rs o)
def openMs (es : List Ent) (rs : Rs) (al : List Nat) : List Nat := al.filter fun o => !(at_ es o).isB && decide (0 < rt rs o)
def maxT (rs : Rs) (d : Nat) (ds : List Nat) : Nat := ds.foldl (fun b x => if rt rs b < rt rs x then x else b) d
def minT (rs : Rs) (d : Nat) (ds : List Nat) : Nat := ds.foldl (fun b x => if rt rs x < rt rs b then x else b) d
def bestT (ch : Ch) (rs : Rs) : List Nat → Option Nat
  | [] => none
  | d :: ds => match ch with
    | .old => some d
    | .new => (d :: ds).getLast?
    | .gre => some (maxT rs d ds)
    | .lea => some (minT rs d ds)
theorem maxT_mem (rs : Rs) : ∀ (ds : List Nat) (d : Nat), maxT rs d ds ∈ d :: ds
  | [], d => by simp [maxT]
  | x :: ds, d => by
    have ih := maxT_mem rs ds (if rt rs d < rt rs x then x else d)
    show maxT rs (if rt rs d < rt rs x then x else d) ds ∈ _
    rcases List.mem_cons.mp ih with h | h
    · rw [h]; split <;> simp
    · simp [h]
theorem minT_mem (rs : Rs) : ∀ (ds : List Nat) (d : Nat), minT rs d ds ∈ d :: ds
  | [], d => by simp [minT]
  | x :: ds, d => by
    have ih := minT_mem rs ds (if rt rs x < rt rs d then x else d)
    show minT rs (if rt rs x < rt rs d then x else d) ds ∈ _
    rcases List.mem_cons.mp ih with h | h
    · rw [h]; split <;> simp
    · simp [h]
theorem bestT_mem {ch : Ch} {rs : Rs} {ds : List Nat} {o : Nat} (h : bestT ch rs ds = some o) : o ∈ ds := by
  cases ds with
  | nil => cases h
  | cons d ds =>
    cases ch with
    | old => cases h; exact List.mem_cons_self ..
    | new => exact List.mem_of_getLast? h
    | gre => cases h; exact maxT_mem ..
    | lea => cases h; exact minT_mem ..
theorem bestT_none {ch : Ch} {rs : Rs} {ds : List Nat} : bestT ch rs ds = none ↔ ds = [] := by
  cases ds with
  | nil => exact ⟨fun _ => rfl, fun _ => rfl⟩
  | cons d ds => cases ch <;> simp [bestT]
def partT (es : List Ent) (rs : Rs) (al : List Nat) (i : Nat) (ch : Ch) : Option Nat := match at_ es i with
  | .nam _ _ k => if 0 < rt rs k.toNat then some k.toNat else bestT ch rs (openBs es rs al)
  | .bill _ _ => (openMs es rs al).head?
  | _ => bestT ch rs (openBs es rs al)
abbrev PairT := Nat × Nat × Int
def pairD (p : PairT) : D := .tup [natD p.1, natD p.2.1, .int p.2.2]
def rowP (p : PairT) : List Int := [(p.1 : Int), (p.2.1 : Int), p.2.2]
theorem pairD_row (p : PairT) : pairD p = rowD (rowP p) := rfl
def sortP (ps : List PairT) : List PairT := ps.mergeSort fun a b => leR (rowP a) (rowP b)
theorem fSort_pairs (ps : List PairT) (st : Sto) : fSort (.lst (ps.map pairD)) st = .ok (.lst ((sortP ps).map pairD)) st := by
  have e1 : rowsI (ps.map pairD) = some (ps.map rowP) := by
    induction ps with
    | nil => rfl
    | cons k ks ih => simp only [List.map_cons, rowsI, rowI, pairD, natD, intsD, ih]; rfl
  simp only [fSort, lsOf, Option.bind, sortL, e1]
  cases ps with
  | nil => simp [intsD, sortP]
  | cons p ps =>
    have e2 : intsD ((p :: ps).map pairD) = none := rfl
    rw [e2]
    simp only
    rw [if_pos (by rw [List.all_map]; exact List.all_eq_true.mpr fun _ _ => rfl)]
    simp only
    have := mergeSort_map_ (f := rowP) (le := leR) (p :: ps)
    rw [← this, List.map_map]
    rfl
def stepR (rs : Rs) (i o : Nat) : Rs := (rs.set i (rt rs i - min (rt rs i) (rt rs o))).set o (rt rs o - min (rt rs i) (rt rs o))
def stepP (es : List Ent) (rs : Rs) (ps : List PairT) (i o : Nat) : List PairT := ps ++ [if (at_ es i).isB then (i, o, min (rt rs i) (rt rs o)) else (o, i, min (rt rs i) (rt rs o))]
def runT (es : List Ent) (al : List Nat) (ch : Ch) (i : Nat) : Nat → Rs → List PairT → Rs × List PairT
  | 0, rs, ps => (rs, ps)
  | n + 1, rs, ps => if 0 < rt rs i then (match partT es rs al i ch with
    | none => (rs, ps)
    | some o => runT es al ch i n (stepR rs i o) (stepP es rs ps i o)) else (rs, ps)
/-- it came to its end in so many turns -/
inductive RunN (es : List Ent) (al : List Nat) (ch : Ch) (i : Nat) : Nat → Rs → List PairT → Rs → List PairT → Prop
  | zero {rs : Rs} {ps : List PairT} : ¬ 0 < rt rs i → RunN es al ch i 0 rs ps rs ps
  | none {rs : Rs} {ps : List PairT} : 0 < rt rs i → partT es rs al i ch = Option.none → RunN es al ch i 0 rs ps rs ps
  | step {n : Nat} {rs rs' : Rs} {ps ps' : List PairT} {o : Nat} : 0 < rt rs i → partT es rs al i ch = some o → RunN es al ch i n (stepR rs i o) (stepP es rs ps i o) rs' ps' → RunN es al ch i (n + 1) rs ps rs' ps'
theorem RunN.runT {es : List Ent} {al : List Nat} {ch : Ch} {i n : Nat} {rs rs' : Rs} {ps ps' : List PairT} (h : RunN es al ch i n rs ps rs' ps') : ∀ k, n < k → Fx.runT es al ch i k rs ps = (rs', ps') := by
  induction h with
  | zero h => intro k hk; cases k with
    | zero => omega
    | succ k => simp only [Fx.runT, if_neg h]
  | none h h2 => intro k hk; cases k with
    | zero => omega
    | succ k => simp only [Fx.runT, if_pos h, h2]
  | step h h2 _ ih => intro k hk; cases k with
    | zero => omega
    | succ k => simp only [Fx.runT, if_pos h, h2]; exact ih k (by omega)
/-- what is open of those on the line -/
def cnt (rs : Rs) (al : List Nat) : Nat := (al.filter fun o => decide (0 < rt rs o)).length
theorem filter_le {p q : Nat → Bool} : ∀ (al : List Nat), (∀ a ∈ al, q a = true → p a = true) → (al.filter q).length ≤ (al.filter p).length
  | [], _ => Nat.le_refl _
  | a :: al, h => by
    have ih := filter_le (p := p) (q := q) al fun b hb => h b (List.mem_cons_of_mem _ hb)
    by_cases hq : q a = true
    · rw [List.filter_cons_of_pos hq, List.filter_cons_of_pos (h a (List.mem_cons_self ..) hq)]
      simp only [List.length_cons]; omega
    · rw [List.filter_cons_of_neg hq]
      by_cases hp : p a = true
      · rw [List.filter_cons_of_pos hp]; simp only [List.length_cons]; omega
      · rw [List.filter_cons_of_neg hp]; exact ih
theorem filter_lt {p q : Nat → Bool} : ∀ (al : List Nat), (∀ a ∈ al, q a = true → p a = true) → (∃ a ∈ al, p a = true ∧ q a = false) → (al.filter q).length < (al.filter p).length
  | [], _, ⟨a, h, _⟩ => by cases h
  | a :: al, h, ⟨b, hb, h1, h2⟩ => by
    by_cases hq : q a = true
    · have hne : b ≠ a := fun z => by subst z; rw [hq] at h2; cases h2
      have ih := filter_lt (p := p) (q := q) al (fun b hb => h b (List.mem_cons_of_mem _ hb)) ⟨b, (List.mem_cons.mp hb).resolve_left hne, h1, h2⟩
      rw [List.filter_cons_of_pos hq, List.filter_cons_of_pos (h a (List.mem_cons_self ..) hq)]
      simp only [List.length_cons]; omega
    · rw [List.filter_cons_of_neg hq]
      by_cases hp : p a = true
      · rw [List.filter_cons_of_pos hp]
        have := filter_le (p := p) (q := q) al fun b hb => h b (List.mem_cons_of_mem _ hb)
        simp only [List.length_cons]; omega
      · rw [List.filter_cons_of_neg hp]
        have hne : b ≠ a := fun z => by subst z; exact hp h1
        exact filter_lt al (fun b hb => h b (List.mem_cons_of_mem _ hb)) ⟨b, (List.mem_cons.mp hb).resolve_left hne, h1, h2⟩
theorem part_some {es : List Ent} {rs : Rs} {i o : Nat} {ch : Ch} (hv : Valid es) (hi : (at_ es i).live = true) (h : partT es rs (lineT es) i ch = some o) : 0 < rt rs o ∧ o ≠ i ∧ (at_ es o).live = true ∧ (at_ es o).isB = !(at_ es i).isB := by
  have ob : ∀ {o : Nat}, o ∈ openBs es rs (lineT es) → 0 < rt rs o ∧ (at_ es o).live = true ∧ (at_ es o).isB = true := fun {o} ho => by
    unfold openBs at ho
    obtain ⟨h1, h2⟩ := List.mem_filter.mp ho
    simp only [Bool.and_eq_true, decide_eq_true_eq] at h2
    exact ⟨h2.2, lineT_mem.mp h1, h2.1⟩
  have om : ∀ {o : Nat}, o ∈ openMs es rs (lineT es) → 0 < rt rs o ∧ (at_ es o).live = true ∧ (at_ es o).isB = false := fun {o} ho => by
    unfold openMs at ho
    obtain ⟨h1, h2⟩ := List.mem_filter.mp ho
    simp only [Bool.and_eq_true, decide_eq_true_eq, Bool.not_eq_true'] at h2
    exact ⟨h2.2, lineT_mem.mp h1, h2.1⟩
  have ne : ∀ {o : Nat}, (at_ es o).isB = !(at_ es i).isB → o ≠ i := fun {o} e z => by subst z; cases h : (at_ es o).isB <;> rw [h] at e <;> cases e
  unfold partT at h
  cases e : at_ es i with
  | str => rw [e] at hi; cases hi
  | bill d s =>
    simp only [e] at h
    obtain ⟨h1, h2, h3⟩ := om (List.mem_of_head? h)
    have h4 : (at_ es o).isB = !(at_ es i).isB := by rw [h3, e]; rfl
    exact ⟨h1, ne h4, h2, by rw [h4, e]⟩
  | pay d s =>
    simp only [e] at h
    obtain ⟨h1, h2, h3⟩ := ob (bestT_mem h)
    have h4 : (at_ es o).isB = !(at_ es i).isB := by rw [h3, e]; rfl
    exact ⟨h1, ne h4, h2, by rw [h4, e]⟩
  | nam d s k =>
    simp only [e] at h
    by_cases hk : 0 < rt rs k.toNat
    · rw [if_pos hk] at h
      cases h
      have hn := hv.nm (.nam d s k) (by rw [← e]; exact List.mem_of_getElem? (at_lt (at_live hi)))
      obtain ⟨_, d', s', h1, _⟩ := hn
      have h5 : at_ es k.toNat = .bill d' s' := by
        unfold at_
        rw [List.getD_eq_getElem?_getD, h1]; rfl
      have h4 : (at_ es k.toNat).isB = !(at_ es i).isB := by rw [h5, e]; rfl
      exact ⟨hk, ne h4, by rw [h5]; rfl, by rw [h4, e]⟩
    · rw [if_neg hk] at h
      obtain ⟨h1, h2, h3⟩ := ob (bestT_mem h)
      have h4 : (at_ es o).isB = !(at_ es i).isB := by rw [h3, e]; rfl
      exact ⟨h1, ne h4, h2, by rw [h4, e]⟩
theorem step_rt {rs : Rs} {i o : Nat} (hi : 0 < rt rs i) (ho : 0 < rt rs o) (hne : o ≠ i) : (∀ j, rt (stepR rs i o) j ≤ rt rs j ∨ rt (stepR rs i o) j = rt rs j) ∧ 0 ≤ rt (stepR rs i o) i ∧ 0 ≤ rt (stepR rs i o) o ∧ (rt (stepR rs i o) i = 0 ∨ rt (stepR rs i o) o = 0) ∧ (∀ j, j ≠ i → j ≠ o → rt (stepR rs i o) j = rt rs j) ∧ (stepR rs i o).length = rs.length := by
  have li := rt_lt (i := i) (rs := rs) (by omega)
  have lo := rt_lt (i := o) (rs := rs) (by omega)
  have ei : rt (stepR rs i o) i = rt rs i - min (rt rs i) (rt rs o) := by
    unfold stepR
    rw [rt_set_ne (fun z => hne z.symm), rt_set_eq li]
  have eo : rt (stepR rs i o) o = rt rs o - min (rt rs i) (rt rs o) := by
    unfold stepR
    rw [rt_set_eq (by rw [List.length_set]; exact lo)]
  have ej : ∀ j, j ≠ i → j ≠ o → rt (stepR rs i o) j = rt rs j := fun j h1 h2 => by
    unfold stepR
    rw [rt_set_ne h2, rt_set_ne h1]
  refine ⟨fun j => ?_, by omega, by omega, by omega, ej, by unfold stepR; simp⟩
  by_cases h1 : j = i
  · subst h1; omega
  · by_cases h2 : j = o
    · subst h2; omega
    · exact .inr (ej j h1 h2)
theorem run_ends {es : List Ent} {ch : Ch} {i : Nat} (hv : Valid es) (hi : (at_ es i).live = true) : ∀ (n : Nat) (rs : Rs) (ps : List PairT), cnt rs (lineT es) ≤ n → ∃ k rs' ps', k ≤ n ∧ RunN es (lineT es) ch i k rs ps rs' ps' ∧ rs'.length = rs.length ∧ ps'.length ≤ ps.length + n := by
  intro n
  induction n with
  | zero =>
    intro rs ps hc
    refine ⟨0, rs, ps, Nat.le_refl _, .zero fun h => ?_, rfl, Nat.le_refl _⟩
    have : i ∈ (lineT es).filter fun o => decide (0 < rt rs o) := List.mem_filter.mpr ⟨lineT_mem.mpr hi, decide_eq_true h⟩
    have := List.length_pos_of_mem this
    unfold cnt at hc
    omega
  | succ n ih =>
    intro rs ps hc
    by_cases h : 0 < rt rs i
    · cases e : partT es rs (lineT es) i ch with
      | none => exact ⟨0, rs, ps, Nat.zero_le _, .none h e, rfl, by omega⟩
      | some o =>
        obtain ⟨h1, h2, h3, _⟩ := part_some hv hi e
        obtain ⟨s1, s2, s3, s4, s5, s6⟩ := step_rt h h1 h2
        have hlt : cnt (stepR rs i o) (lineT es) < cnt rs (lineT es) := by
          unfold cnt
          refine filter_lt _ (fun a _ ha => ?_) ?_
          · simp only [decide_eq_true_eq] at ha ⊢
            rcases s1 a with z | z <;> omega
          · rcases s4 with z | z
            · exact ⟨i, lineT_mem.mpr hi, decide_eq_true h, decide_eq_false (by omega)⟩
            · exact ⟨o, lineT_mem.mpr h3, decide_eq_true h1, decide_eq_false (by omega)⟩
        obtain ⟨k, rs', ps', k1, k2, k3, k4⟩ := ih (stepR rs i o) (stepP es rs ps i o) (by omega)
        refine ⟨k + 1, rs', ps', by omega, .step h e k2, by rw [k3, s6], ?_⟩
        have : (stepP es rs ps i o).length = ps.length + 1 := by unfold stepP; simp
        omega
    · exact ⟨0, rs, ps, Nat.zero_le _, .zero h, rfl, by omega⟩
/-- all entries gone through -/
def goT (es : List Ent) (ch : Ch) : List Nat → Rs → List PairT → Rs × List PairT
  | [], rs, ps => (rs, ps)
  | i :: is, rs, ps => goT es ch is (runT es (lineT es) ch i (es.length + 1) (rs.set i (at_ es i).amt) ps).1 (runT es (lineT es) ch i (es.length + 1) (rs.set i (at_ es i).amt) ps).2
def stepsT (es : List Ent) (days : Bool) : List Nat := if days then lineT es else enteredT es
def layT (es : List Ent) (days : Bool) (ch : Ch) : List PairT := sortP (goT es ch (stepsT es days) (List.replicate es.length 0) []).2
theorem while_gen {mc : ME} {mb : MS} (I : Nat → SEnv → Sto → Prop) (B : SEnv → Sto → Prop)
    (hs : ∀ k env st, I k env st → (mc env st = .ok (.bl false) st ∧ B env st) ∨ (mc env st = .ok (.bl true) st ∧ ((∃ env2 st2, mb env st = .bk env2 st2 ∧ B env2 st2) ∨ ∃ k', k = k' + 1 ∧ ∃ env2 st2, (mb env st = .nx env2 st2 ∨ mb env st = .ct env2 st2) ∧ I k' env2 st2))) :
    ∀ (k n : Nat) (env : SEnv) (st : Sto), I k env st → k < n → ∃ e s, whileGo mc mb n env st = .nx e s ∧ B e s
  | k, 0, _, _, _, h => absurd h (Nat.not_lt_zero _)
  | k, n + 1, env, st, h0, hk => by
    rcases hs k env st h0 with ⟨h1, h2⟩ | ⟨h1, ⟨env2, st2, h2, h3⟩ | ⟨k', rfl, env2, st2, h2, h3⟩⟩
    · exact ⟨env, st, by simp only [whileGo, h1, R.stm, Bool.false_eq_true, if_false], h2⟩
    · exact ⟨env2, st2, by simp only [whileGo, h1, R.stm, if_true, h2], h3⟩
    · obtain ⟨e, s, h4, h5⟩ := while_gen I B hs k' n env2 st2 h3 (by omega)
      refine ⟨e, s, ?_, h5⟩
      rcases h2 with h2 | h2 <;> simp only [whileGo, h1, R.stm, if_true, h2, h4]
theorem while_eq {mc : ME} {mb : MS} {n k : Nat} {env : SEnv} {st : Sto} {x : RS} (hx : whileGo mc mb n env st = x) (I : Nat → SEnv → Sto → Prop) (B : SEnv → Sto → Prop) (h0 : I k env st) (hk : k < n)
    (hs : ∀ k env st, I k env st → (mc env st = .ok (.bl false) st ∧ B env st) ∨ (mc env st = .ok (.bl true) st ∧ ((∃ env2 st2, mb env st = .bk env2 st2 ∧ B env2 st2) ∨ ∃ k', k = k' + 1 ∧ ∃ env2 st2, (mb env st = .nx env2 st2 ∨ mb env st = .ct env2 st2) ∧ I k' env2 st2))) : ∃ e s, x = .nx e s ∧ B e s := by
  subst hx
  exact while_gen I B hs k n env st h0 hk
theorem put2_nat {j k : Nat} {env : SEnv} {xs : List D} {d : D} {st : Sto} (h : k < xs.length) : put2 j env xs d (.ok (natD k) st) = .nx (env.set j (.own (xs.set k d))) st := by
  show (match L2.ixN xs.length (k : Int) with
    | some t => RS.nx (env.set j (.own (xs.set t d))) st
    | none => .bad) = _
  rw [ixN_nat h]
theorem ix_rl {rs : Rs} {i : Nat} {st : Sto} (h : i < rs.length) : fIx (.lst (rs.map D.int)) (natD i) st = .ok (.int (rt rs i)) st := ix_rsN h
@[simp] theorem min2_i (i j : Int) (st : Sto) : fMin2 (.int i) (.int j) st = .ok (.int (min i j)) st := by
  simp only [fMin2]
  congr 2
  split <;> omega
@[simp] theorem max2_i (i j : Int) (st : Sto) : fMax2 (.int i) (.int j) st = .ok (.int (max i j)) st := by
  simp only [fMax2]
  congr 2
  split <;> omega
@[simp] theorem putU_i {j : Nat} {mk : ME} {env : SEnv} {xs : List D} {v : Int} {st : Sto} : putU1 j mk env xs (.ok (.int v) st) = put2 j env xs (.int v) (mk env st) := putU1_ok rfl
end Fx

namespace Fx
open PySem PySem.Spec PyProof.Rows
/-! ## the first greatest, by its index -/
theorem maxT_split (rs : Rs) : ∀ (ds : List Nat) (d : Nat), ∃ l1 l2, d :: ds = l1 ++ maxT rs d ds :: l2 ∧ (∀ x ∈ l1, rt rs x < rt rs (maxT rs d ds)) ∧ ∀ x ∈ l2, rt rs x ≤ rt rs (maxT rs d ds)
  | [], d => ⟨[], [], rfl, (fun _ h => nomatch h), (fun _ h => nomatch h)⟩
  | x :: ds, d => by
    by_cases h : rt rs d < rt rs x
    · have e : maxT rs d (x :: ds) = maxT rs x ds := by show maxT rs (if rt rs d < rt rs x then x else d) ds = _; rw [if_pos h]
      obtain ⟨l1, l2, h1, h2, h3⟩ := maxT_split rs ds x
      rw [e]
      refine ⟨d :: l1, l2, by rw [h1]; rfl, fun y hy => ?_, h3⟩
      rcases List.mem_cons.mp hy with z | hy
      · have hx : rt rs x ≤ rt rs (maxT rs x ds) := by
          have hm : x ∈ l1 ++ maxT rs x ds :: l2 := h1 ▸ List.mem_cons_self ..
          rcases List.mem_append.mp hm with w | w
          · exact Int.le_of_lt (h2 x w)
          · rcases List.mem_cons.mp w with w | w
            · exact Int.le_of_eq (congrArg (rt rs) w)
            · exact h3 x w
        rw [z]; omega
      · exact h2 y hy
    · have e : maxT rs d (x :: ds) = maxT rs d ds := by show maxT rs (if rt rs d < rt rs x then x else d) ds = _; rw [if_neg h]
      obtain ⟨l1, l2, h1, h2, h3⟩ := maxT_split rs ds d
      rw [e]
      cases l1 with
      | nil =>
        obtain ⟨h1, h4⟩ := List.cons.inj h1
        refine ⟨[], x :: l2, by rw [List.nil_append, ← h1, ← h4], (fun _ h => nomatch h), fun y hy => ?_⟩
        rcases List.mem_cons.mp hy with z | hy
        · rw [← h1, z]; omega
        · exact h3 y hy
      | cons a l =>
        obtain ⟨h4, h1⟩ := List.cons.inj h1
        refine ⟨d :: x :: l, l2, congrArg (fun t => d :: x :: t) h1, fun y hy => ?_, h3⟩
        have hd := h2 a (List.mem_cons_self ..)
        rw [← h4] at hd
        rcases List.mem_cons.mp hy with z | hy
        · rw [z]; exact hd
        · rcases List.mem_cons.mp hy with z | hy
          · rw [z]; omega
          · exact h2 y (List.mem_cons_of_mem _ hy)
theorem minT_split (rs : Rs) : ∀ (ds : List Nat) (d : Nat), ∃ l1 l2, d :: ds = l1 ++ minT rs d ds :: l2 ∧ (∀ x ∈ l1, rt rs (minT rs d ds) < rt rs x) ∧ ∀ x ∈ l2, rt rs (minT rs d ds) ≤ rt rs x
  | [], d => ⟨[], [], rfl, (fun _ h => nomatch h), (fun _ h => nomatch h)⟩
  | x :: ds, d => by
    by_cases h : rt rs x < rt rs d
    · have e : minT rs d (x :: ds) = minT rs x ds := by show minT rs (if rt rs x < rt rs d then x else d) ds = _; rw [if_pos h]
      obtain ⟨l1, l2, h1, h2, h3⟩ := minT_split rs ds x
      rw [e]
      refine ⟨d :: l1, l2, by rw [h1]; rfl, fun y hy => ?_, h3⟩
      rcases List.mem_cons.mp hy with z | hy
      · have hx : rt rs (minT rs x ds) ≤ rt rs x := by
          have hm : x ∈ l1 ++ minT rs x ds :: l2 := h1 ▸ List.mem_cons_self ..
          rcases List.mem_append.mp hm with w | w
          · exact Int.le_of_lt (h2 x w)
          · rcases List.mem_cons.mp w with w | w
            · exact Int.le_of_eq (congrArg (rt rs) w).symm
            · exact h3 x w
        rw [z]; omega
      · exact h2 y hy
    · have e : minT rs d (x :: ds) = minT rs d ds := by show minT rs (if rt rs x < rt rs d then x else d) ds = _; rw [if_neg h]
      obtain ⟨l1, l2, h1, h2, h3⟩ := minT_split rs ds d
      rw [e]
      cases l1 with
      | nil =>
        obtain ⟨h1, h4⟩ := List.cons.inj h1
        refine ⟨[], x :: l2, by rw [List.nil_append, ← h1, ← h4], (fun _ h => nomatch h), fun y hy => ?_⟩
        rcases List.mem_cons.mp hy with z | hy
        · rw [← h1, z]; omega
        · exact h3 y hy
      | cons a l =>
        obtain ⟨h4, h1⟩ := List.cons.inj h1
        refine ⟨d :: x :: l, l2, congrArg (fun t => d :: x :: t) h1, fun y hy => ?_, h3⟩
        have hd := h2 a (List.mem_cons_self ..)
        rw [← h4] at hd
        rcases List.mem_cons.mp hy with z | hy
        · rw [z]; exact hd
        · rcases List.mem_cons.mp hy with z | hy
          · rw [z]; omega
          · exact h2 y (List.mem_cons_of_mem _ hy)
theorem idx_split {l1 l2 : List Int} {b : Int} (h : ∀ x ∈ l1, x ≠ b) : (l1 ++ b :: l2).findIdx? (fun n => decide (n = b)) = some l1.length := by
  induction l1 with
  | nil => simp [List.findIdx?_cons]
  | cons a l ih =>
    rw [List.cons_append, List.findIdx?_cons]
    have := h a (List.mem_cons_self ..)
    simp only [this, decide_false, Bool.false_eq_true, if_false]
    rw [ih fun x hx => h x (List.mem_cons_of_mem _ hx)]
    rfl
/-- the law's way: the sums' index -/
theorem maxT_index (rs : Rs) (d : Nat) (ds : List Nat) : ∃ j : Nat, ((d :: ds).map (rt rs)).findIdx? (fun n => decide (n = (ds.map (rt rs)).foldl max (rt rs d))) = some j ∧ (d :: ds)[j]? = some (maxT rs d ds) := by
  obtain ⟨l1, l2, h1, h2, h3⟩ := maxT_split rs ds d
  have e : (ds.map (rt rs)).foldl max (rt rs d) = rt rs (maxT rs d ds) := by
    obtain ⟨g1, g2, g3⟩ := foldl_max (ds.map (rt rs)) (rt rs d)
    have hall : ∀ x ∈ d :: ds, rt rs x ≤ rt rs (maxT rs d ds) := fun x hx => by
      rw [h1] at hx
      rcases List.mem_append.mp hx with z | z
      · exact Int.le_of_lt (h2 x z)
      · rcases List.mem_cons.mp z with rfl | z
        · exact Int.le_refl _
        · exact h3 x z
    have up : (ds.map (rt rs)).foldl max (rt rs d) ≤ rt rs (maxT rs d ds) := by
      rcases g3 with g3 | g3
      · rw [g3]; exact hall d (List.mem_cons_self ..)
      · obtain ⟨x, hx, ex⟩ := List.mem_map.mp g3
        rw [← ex]; exact hall x (List.mem_cons_of_mem _ hx)
    have lo : rt rs (maxT rs d ds) ≤ (ds.map (rt rs)).foldl max (rt rs d) := by
      rcases List.mem_cons.mp (maxT_mem rs ds d) with z | z
      · rw [z]; exact g1
      · exact g2 _ (List.mem_map.mpr ⟨_, z, rfl⟩)
    omega
  refine ⟨l1.length, ?_, by rw [h1]; simp⟩
  rw [e, h1, List.map_append, List.map_cons, idx_split (fun x hx => ?_), List.length_map]
  obtain ⟨y, hy, rfl⟩ := List.mem_map.mp hx
  have := h2 y hy
  omega
theorem minT_index (rs : Rs) (d : Nat) (ds : List Nat) : ∃ j : Nat, ((d :: ds).map (rt rs)).findIdx? (fun n => decide (n = (ds.map (rt rs)).foldl min (rt rs d))) = some j ∧ (d :: ds)[j]? = some (minT rs d ds) := by
  obtain ⟨l1, l2, h1, h2, h3⟩ := minT_split rs ds d
  have e : (ds.map (rt rs)).foldl min (rt rs d) = rt rs (minT rs d ds) := by
    obtain ⟨g1, g2, g3⟩ := foldl_min (ds.map (rt rs)) (rt rs d)
    have hall : ∀ x ∈ d :: ds, rt rs (minT rs d ds) ≤ rt rs x := fun x hx => by
      rw [h1] at hx
      rcases List.mem_append.mp hx with z | z
      · exact Int.le_of_lt (h2 x z)
      · rcases List.mem_cons.mp z with rfl | z
        · exact Int.le_refl _
        · exact h3 x z
    have up : rt rs (minT rs d ds) ≤ (ds.map (rt rs)).foldl min (rt rs d) := by
      rcases g3 with g3 | g3
      · rw [g3]; exact hall d (List.mem_cons_self ..)
      · obtain ⟨x, hx, ex⟩ := List.mem_map.mp g3
        rw [← ex]; exact hall x (List.mem_cons_of_mem _ hx)
    have lo : (ds.map (rt rs)).foldl min (rt rs d) ≤ rt rs (minT rs d ds) := by
      rcases List.mem_cons.mp (minT_mem rs ds d) with z | z
      · rw [z]; exact g1
      · exact g2 _ (List.mem_map.mpr ⟨_, z, rfl⟩)
    omega
  refine ⟨l1.length, ?_, by rw [h1]; simp⟩
  rw [e, h1, List.map_append, List.map_cons, idx_split (fun x hx => ?_), List.length_map]
  obtain ⟨y, hy, rfl⟩ := List.mem_map.mp hx
  have := h2 y hy
  omega
theorem intsD_map (ns : List Int) : intsD (ns.map D.int) = some ns := by
  induction ns with
  | nil => rfl
  | cons n ns ih => simp only [List.map_cons, intsD, ih]; rfl
end Fx

namespace Fx
open PySem PySem.Spec PyProof.Rows
/-! ## what is owed on days, typed -/
def sgT (e : Ent) : Int := if e.isB then e.amt else 0 - e.amt
def onT (w : Int) (e : Ent) : Bool := e.live && decide (e.day ≤ w)
def levT (es : List Ent) (w : Int) : Int := ((es.filter (onT w)).map sgT).sum
def owedT (es : List Ent) (w : Int) : Int := max 0 (levT es w)
def dayL (es : List Ent) : List Int := (es.filter Ent.live).map Ent.day
def daysT (es : List Ent) : List Int := sortSet (dayL es)
def fmT (a b : List Ent) : Option Int := (daysT (a ++ b)).find? fun d => decide (owedT b d < owedT a d)
def turnT (es : List Ent) : List Int := match daysT es with
  | [] => [0]
  | d :: ds => (d - 1) :: d :: ds
def upT (es : List Ent) (w : Int) : List Ent := es.map fun e => if onT w e then e else .str
theorem Jar.app {j n : Nat} {st : Sto} (h : Jar j n st) (t : Sto) : Jar j n (st ++ t) := by
  obtain ⟨a, s, c, h1, h2⟩ := h
  exact ⟨a, s, c, by rw [List.getElem?_append_left (List.getElem?_eq_some_iff.mp h1).1, h1], h2⟩
theorem daysT_mem {es : List Ent} {d : Int} : d ∈ daysT es ↔ ∃ e ∈ es, e.live = true ∧ e.day = d := by
  unfold daysT dayL
  rw [sortSet_mem, List.mem_map]
  constructor
  · rintro ⟨e, he, rfl⟩
    obtain ⟨h1, h2⟩ := List.mem_filter.mp he
    exact ⟨e, h1, h2, rfl⟩
  · rintro ⟨e, h1, h2, rfl⟩
    exact ⟨e, List.mem_filter.mpr ⟨h1, h2⟩, rfl⟩
theorem insS_len (x : Int) : ∀ l : List Int, (insS x l).length ≤ l.length + 1
  | [] => by simp [insS]
  | y :: l => by
    have ih := insS_len x l
    unfold insS
    by_cases h : x < y
    · rw [if_pos h]; simp
    · rw [if_neg h]
      by_cases h2 : x = y
      · rw [if_pos h2]; simp
      · rw [if_neg h2]; simp only [List.length_cons]; omega
theorem sortSet_len : ∀ l : List Int, (sortSet l).length ≤ l.length
  | [] => by simp [sortSet]
  | y :: l => by
    have h1 := insS_len y (sortSet l)
    have h2 := sortSet_len l
    have e : sortSet (y :: l) = insS y (sortSet l) := rfl
    rw [e, List.length_cons]; omega
theorem daysT_len (es : List Ent) : (daysT es).length ≤ es.length := by
  refine Nat.le_trans (sortSet_len _) ?_
  unfold dayL
  rw [List.length_map]
  exact List.length_filter_le _ _
theorem turnT_len (es : List Ent) : (turnT es).length ≤ es.length + 1 := by
  have := daysT_len es
  unfold turnT
  cases e : daysT es with
  | nil => simp
  | cons x xs => rw [e] at this; simp only [List.length_cons] at this ⊢; omega
theorem last_up (w : Int) : ∀ L : List Int, (∀ d ∈ L, ¬ d ≤ w) ∨ ∃ m ∈ L, m ≤ w ∧ ∀ d ∈ L, d ≤ w → d ≤ m
  | [] => .inl fun _ h => nomatch h
  | x :: L => by
    rcases last_up w L with h | ⟨m, h1, h2, h3⟩
    · by_cases hx : x ≤ w
      · refine .inr ⟨x, List.mem_cons_self .., hx, fun d hd hw => ?_⟩
        rcases List.mem_cons.mp hd with z | hd
        · rw [z]; exact Int.le_refl _
        · exact absurd hw (h d hd)
      · refine .inl fun d hd => ?_
        rcases List.mem_cons.mp hd with z | hd
        · rw [z]; exact hx
        · exact h d hd
    · by_cases hx : x ≤ w ∧ m ≤ x
      · refine .inr ⟨x, List.mem_cons_self .., hx.1, fun d hd hw => ?_⟩
        rcases List.mem_cons.mp hd with z | hd
        · rw [z]; exact Int.le_refl _
        · have := h3 d hd hw; omega
      · refine .inr ⟨m, List.mem_cons_of_mem _ h1, h2, fun d hd hw => ?_⟩
        rcases List.mem_cons.mp hd with z | hd
        · rw [z] at hw ⊢; omega
        · exact h3 d hd hw
theorem filter_eq_of {p q : Ent → Bool} {es : List Ent} (h : ∀ e ∈ es, p e = q e) : es.filter p = es.filter q := List.filter_congr h
theorem lev_none {es : List Ent} {w : Int} (h : ∀ e ∈ es, e.live = true → ¬ e.day ≤ w) : levT es w = 0 := by
  unfold levT
  rw [List.filter_eq_nil_iff.mpr]
  · rfl
  · intro e he
    unfold onT
    cases hl : e.live with
    | false => simp
    | true => simp [h e he hl]
theorem lev_at {es : List Ent} {w m : Int} (hm : m ≤ w) (h : ∀ e ∈ es, e.live = true → e.day ≤ w → e.day ≤ m) : levT es w = levT es m := by
  unfold levT
  rw [filter_eq_of (q := onT m)]
  intro e he
  unfold onT
  cases hl : e.live with
  | false => rfl
  | true =>
    simp only [Bool.true_and]
    refine decide_eq_decide.mpr ⟨h e he hl, fun z => by omega⟩
/-- what holds on the days of both holds on all days -/
theorem owed_le {a b : List Ent} (h : ∀ d ∈ daysT (a ++ b), owedT a d ≤ owedT b d) (w : Int) : owedT a w ≤ owedT b w := by
  rcases last_up w (daysT (a ++ b)) with h1 | ⟨m, h1, h2, h3⟩
  · have ha : levT a w = 0 := lev_none fun e he hl => h1 _ (daysT_mem.mpr ⟨e, List.mem_append_left _ he, hl, rfl⟩)
    have hb : levT b w = 0 := lev_none fun e he hl => h1 _ (daysT_mem.mpr ⟨e, List.mem_append_right _ he, hl, rfl⟩)
    unfold owedT
    rw [ha, hb]
    exact Int.le_refl _
  · have ha : levT a w = levT a m := lev_at h2 fun e he hl => h3 _ (daysT_mem.mpr ⟨e, List.mem_append_left _ he, hl, rfl⟩)
    have hb : levT b w = levT b m := lev_at h2 fun e he hl => h3 _ (daysT_mem.mpr ⟨e, List.mem_append_right _ he, hl, rfl⟩)
    have := h m h1
    unfold owedT at this ⊢
    rw [ha, hb]
    exact this
theorem fmT_none {a b : List Ent} : (fmT a b).isNone = true ↔ ∀ w, owedT a w ≤ owedT b w := by
  unfold fmT
  rw [Option.isNone_iff_eq_none, List.find?_eq_none]
  constructor
  · intro h
    exact owed_le fun d hd => by have := h d hd; simp only [decide_eq_true_eq] at this; omega
  · intro h d _
    have := h d
    simp only [decide_eq_true_eq]
    omega
/-- the law's way: on days that hold all the days of both -/
theorem fmT_spots {a b : List Ent} {spots : List Int} (h : ∀ d ∈ daysT (a ++ b), d ∈ spots) : (spots.all fun d => decide (owedT a d ≤ owedT b d)) = (fmT a b).isNone := by
  rw [Bool.eq_iff_iff, fmT_none, List.all_eq_true]
  constructor
  · intro z
    exact owed_le fun d hd => by simpa using z d (h d hd)
  · intro z d _
    simpa using z d
theorem turn_mem {es : List Ent} {d : Int} (h : d ∈ daysT es) : d ∈ turnT es := by
  unfold turnT
  cases e : daysT es with
  | nil => rw [e] at h; cases h
  | cons x xs => rw [e] at h; exact List.mem_cons_of_mem _ h
theorem turn_ne (es : List Ent) : turnT es ≠ [] := by
  unfold turnT
  cases daysT es <;> simp
theorem dayL_app (a b : List Ent) : dayL (a ++ b) = dayL a ++ dayL b := by unfold dayL; simp
theorem daysT_comm (a b : List Ent) {d : Int} : d ∈ daysT (b ++ a) → d ∈ daysT (a ++ b) := by
  unfold daysT
  rw [sortSet_mem, sortSet_mem, dayL_app, dayL_app, List.mem_append, List.mem_append]
  exact fun h => h.symm
/-! as of a day -/
theorem upT_len (es : List Ent) (w : Int) : (upT es w).length = es.length := by unfold upT; simp
theorem upT_lev (es : List Ent) (w : Int) : levT (upT es w) w = levT es w := by
  unfold levT upT
  induction es with
  | nil => rfl
  | cons e es ih =>
    rw [List.map_cons]
    cases h : onT w e with
    | true => simp only [if_true, List.filter_cons_of_pos h, List.map_cons, List.sum_cons, ih]
    | false =>
      have h2 : ¬ onT w e = true := by simp [h]
      have h3 : ¬ onT w .str = true := by simp [onT, Ent.live]
      simp only [Bool.false_eq_true, if_false, List.filter_cons_of_neg h2, List.filter_cons_of_neg h3, ih]
theorem upT_valid {es : List Ent} (hv : Valid es) (w : Int) : Valid (upT es w) where
  s1 e he := by
    obtain ⟨x, hx, rfl⟩ := List.mem_map.mp he
    split
    · exact hv.s1 x hx
    · trivial
  nm e he := by
    obtain ⟨x, hx, rfl⟩ := List.mem_map.mp he
    split
    · rename_i ho
      have := hv.nm x hx
      cases x with
      | nam d s k =>
        obtain ⟨h0, d', s', h1, h2⟩ := this
        refine ⟨h0, d', s', ?_, h2⟩
        unfold upT
        rw [List.getElem?_map, h1]
        simp only [Option.map_some]
        rw [if_pos]
        have ho : d ≤ w := of_decide_eq_true ho
        have : d' ≤ w := by omega
        exact decide_eq_true this
      | _ => trivial
    · trivial
end Fx

namespace G_k78
open PySem PySem.Spec PyProof.Rows L2 Fx
def topS (i : Nat) : Stmt := PySem.Challenge.pw_oldestbills_k78_books_on_days.main.body.getD i (.Pass ⟨0, 0, 0, 0⟩)
def cd : CD := ⟨["BillError", "InvalidAccount", "InvalidManner", "InvalidDay", "InvalidIndex", "InvalidBook", "Book"], [(6, 6, true)], [("BillError", 0, true), ("BillError", 1, false), ("BillError", 2, false), ("BillError", 3, false), ("BillError", 4, false), ("BillError", 5, false), ("BillError", 6, false)], ["line_of"]⟩
abbrev g : Cfg := cd.g
abbrev cn : CN := cd.g.cn
abbrev st__law_bag_of : Stmt := topS 51
abbrev st__law_pick : Stmt := topS 52
abbrev st__law_with_names : Stmt := topS 57
abbrev st__law_some : Stmt := topS 56
abbrev st__law_reach : Stmt := topS 55
abbrev st__law_height : Stmt := topS 54
abbrev st__law_any : Stmt := topS 62
abbrev st__law_other : Stmt := topS 67
abbrev st__law_turning_days : Stmt := topS 64
abbrev st_has_word : Stmt := topS 13
abbrev st_is_integer : Stmt := topS 12
abbrev st_is_plain_entry : Stmt := topS 14
abbrev st_has_entry_form : Stmt := topS 15
abbrev st_names_rightly : Stmt := topS 16
abbrev st_is_account : Stmt := topS 17
abbrev st_need_account : Stmt := topS 19
abbrev st_Book___init__ : Stmt := (cBody (topS 48)).getD 0 (.Pass ⟨0, 0, 0, 0⟩)
abbrev st_Book_of : Stmt := (cBody (topS 48)).getD 17 (.Pass ⟨0, 0, 0, 0⟩)
abbrev st__law_volume : Stmt := topS 65
abbrev st__law_level : Stmt := topS 63
abbrev st__law_like : Stmt := topS 53
abbrev st_need_day : Stmt := topS 21
abbrev st_signed : Stmt := topS 34
abbrev st_balance_on : Stmt := topS 35
abbrev st_owed_by : Stmt := topS 37
abbrev st_Book___call__ : Stmt := (cBody (topS 48)).getD 8 (.Pass ⟨0, 0, 0, 0⟩)
abbrev st_up_to : Stmt := topS 25
abbrev st_Book_as_of : Stmt := (cBody (topS 48)).getD 15 (.Pass ⟨0, 0, 0, 0⟩)
abbrev st_Book_account : Stmt := (cBody (topS 48)).getD 1 (.Pass ⟨0, 0, 0, 0⟩)
abbrev st__law_is_volume : Stmt := topS 66
abbrev st_owed : Stmt := topS 38
abbrev st__law_on_days : Stmt := topS 68
abbrev st_need_book : Stmt := topS 49
abbrev st_days_in : Stmt := topS 36
abbrev st_first_more : Stmt := topS 39
abbrev st_Book_never_more : Stmt := (cBody (topS 48)).getD 12 (.Pass ⟨0, 0, 0, 0⟩)
abbrev st_Book_less : Stmt := (cBody (topS 48)).getD 13 (.Pass ⟨0, 0, 0, 0⟩)
abbrev st_never_more : Stmt := topS 40
abbrev st__law_rule : Stmt := topS 61
abbrev st__law_along : Stmt := topS 58
abbrev st__law_partner : Stmt := topS 59
abbrev st__law_by_rule : Stmt := topS 60
abbrev st_is_manner : Stmt := topS 18
abbrev st_need_manner : Stmt := topS 20
abbrev st_line_of : Stmt := topS 24
abbrev st_chosen_bill : Stmt := topS 29
abbrev st_partner : Stmt := topS 30
abbrev st_pairs_of : Stmt := topS 31
abbrev st_Book_laid : Stmt := (cBody (topS 48)).getD 14 (.Pass ⟨0, 0, 0, 0⟩)
abbrev st_laid : Stmt := topS 32
abbrev st__law_one : Stmt := topS 69
abbrev st_law : Stmt := topS 70
def fa : List FX := [.free "int",
  .glo "_law_bag_of",
  .free "list",
  .free "len",
  .glo "_law_pick",
  .free "range",
  .free "tuple",
  .glo "_law_with_names",
  .glo "_law_some",
  .glo "_law_reach",
  .glo "_law_height",
  .glo "_law_any",
  .free "any",
  .glo "_law_other",
  .free "sorted",
  .free "set",
  .glo "_law_turning_days",
  .kf cd,
  .free "isinstance",
  .free "str",
  .glo "has_word",
  .free "bool",
  .glo "is_integer",
  .glo "is_plain_entry",
  .glo "has_entry_form",
  .free "all",
  .glo "names_rightly",
  .glo "is_account",
  .exc "InvalidAccount",
  .glo "need_account",
  .cls "Book",
  .noat "Book" "entries",
  .mkr "Book",
  .smeth "Book" "of",
  .glo "Book",
  .glo "_law_volume",
  .glo "_law_level",
  .free "max",
  .glo "_law_like",
  .exc "InvalidDay",
  .glo "need_day",
  .glo "signed",
  .free "sum",
  .glo "balance_on",
  .glo "owed_by",
  .meth "Book" "__call__",
  .glo "up_to",
  .meth "Book" "as_of",
  .prop "Book" "account",
  .glo "_law_is_volume",
  .glo "owed",
  .glo "_law_on_days",
  .exc "InvalidBook",
  .glo "need_book",
  .glo "days_in",
  .glo "first_more",
  .meth "Book" "never_more",
  .meth "Book" "less",
  .glo "never_more",
  .glo "_law_rule",
  .glo "_law_along",
  .free "min",
  .glo "_law_partner",
  .glo "_law_by_rule",
  .con "SEQUENCES" (.tup [.str "days", .str "entered"]),
  .con "CHOICES" (.tup [.str "oldest", .str "newest", .str "greatest", .str "least"]),
  .glo "is_manner",
  .exc "InvalidManner",
  .glo "need_manner",
  .glo "line_of",
  .glo "chosen_bill",
  .glo "partner",
  .glo "pairs_of",
  .meth "Book" "laid",
  .glo "laid",
  .glo "_law_one",
  .glo "law"]
def fn : List DX := [⟨.glo "_law_bag_of", "_law_bag_of", "_law_bag_of", defArgs st__law_bag_of, defBody st__law_bag_of, defScope st__law_bag_of⟩,
  ⟨.glo "_law_pick", "_law_pick", "_law_pick", defArgs st__law_pick, defBody st__law_pick, defScope st__law_pick⟩,
  ⟨.glo "_law_with_names", "_law_with_names", "_law_with_names", defArgs st__law_with_names, defBody st__law_with_names, defScope st__law_with_names⟩,
  ⟨.glo "_law_some", "_law_some", "_law_some", defArgs st__law_some, defBody st__law_some, defScope st__law_some⟩,
  ⟨.glo "_law_reach", "_law_reach", "_law_reach", defArgs st__law_reach, defBody st__law_reach, defScope st__law_reach⟩,
  ⟨.glo "_law_height", "_law_height", "_law_height", defArgs st__law_height, defBody st__law_height, defScope st__law_height⟩,
  ⟨.glo "_law_any", "_law_any", "_law_any", defArgs st__law_any, defBody st__law_any, defScope st__law_any⟩,
  ⟨.glo "_law_other", "_law_other", "_law_other", defArgs st__law_other, defBody st__law_other, defScope st__law_other⟩,
  ⟨.glo "_law_turning_days", "_law_turning_days", "_law_turning_days", defArgs st__law_turning_days, defBody st__law_turning_days, defScope st__law_turning_days⟩,
  ⟨.glo "has_word", "has_word", "has_word", defArgs st_has_word, defBody st_has_word, defScope st_has_word⟩,
  ⟨.glo "is_integer", "is_integer", "is_integer", defArgs st_is_integer, defBody st_is_integer, defScope st_is_integer⟩,
  ⟨.glo "is_plain_entry", "is_plain_entry", "is_plain_entry", defArgs st_is_plain_entry, defBody st_is_plain_entry, defScope st_is_plain_entry⟩,
  ⟨.glo "has_entry_form", "has_entry_form", "has_entry_form", defArgs st_has_entry_form, defBody st_has_entry_form, defScope st_has_entry_form⟩,
  ⟨.glo "names_rightly", "names_rightly", "names_rightly", defArgs st_names_rightly, defBody st_names_rightly, defScope st_names_rightly⟩,
  ⟨.glo "is_account", "is_account", "is_account", defArgs st_is_account, defBody st_is_account, defScope st_is_account⟩,
  ⟨.glo "need_account", "need_account", "need_account", defArgs st_need_account, defBody st_need_account, defScope st_need_account⟩,
  ⟨.meth "Book" "__init__", "__init__", "Book.__init__", defArgs st_Book___init__, defBody st_Book___init__, defScope st_Book___init__⟩,
  ⟨.smeth "Book" "of", "of", "Book.of", defArgs st_Book_of, defBody st_Book_of, defScope st_Book_of⟩,
  ⟨.glo "_law_volume", "_law_volume", "_law_volume", defArgs st__law_volume, defBody st__law_volume, defScope st__law_volume⟩,
  ⟨.glo "_law_level", "_law_level", "_law_level", defArgs st__law_level, defBody st__law_level, defScope st__law_level⟩,
  ⟨.glo "_law_like", "_law_like", "_law_like", defArgs st__law_like, defBody st__law_like, defScope st__law_like⟩,
  ⟨.glo "need_day", "need_day", "need_day", defArgs st_need_day, defBody st_need_day, defScope st_need_day⟩,
  ⟨.glo "signed", "signed", "signed", defArgs st_signed, defBody st_signed, defScope st_signed⟩,
  ⟨.glo "balance_on", "balance_on", "balance_on", defArgs st_balance_on, defBody st_balance_on, defScope st_balance_on⟩,
  ⟨.glo "owed_by", "owed_by", "owed_by", defArgs st_owed_by, defBody st_owed_by, defScope st_owed_by⟩,
  ⟨.meth "Book" "__call__", "__call__", "Book.__call__", defArgs st_Book___call__, defBody st_Book___call__, defScope st_Book___call__⟩,
  ⟨.glo "up_to", "up_to", "up_to", defArgs st_up_to, defBody st_up_to, defScope st_up_to⟩,
  ⟨.meth "Book" "as_of", "as_of", "Book.as_of", defArgs st_Book_as_of, defBody st_Book_as_of, defScope st_Book_as_of⟩,
  ⟨.prop "Book" "account", "account", "Book.account", defArgs st_Book_account, defBody st_Book_account, defScope st_Book_account⟩,
  ⟨.glo "_law_is_volume", "_law_is_volume", "_law_is_volume", defArgs st__law_is_volume, defBody st__law_is_volume, defScope st__law_is_volume⟩,
  ⟨.glo "owed", "owed", "owed", defArgs st_owed, defBody st_owed, defScope st_owed⟩,
  ⟨.glo "_law_on_days", "_law_on_days", "_law_on_days", defArgs st__law_on_days, defBody st__law_on_days, defScope st__law_on_days⟩,
  ⟨.glo "need_book", "need_book", "need_book", defArgs st_need_book, defBody st_need_book, defScope st_need_book⟩,
  ⟨.glo "days_in", "days_in", "days_in", defArgs st_days_in, defBody st_days_in, defScope st_days_in⟩,
  ⟨.glo "first_more", "first_more", "first_more", defArgs st_first_more, defBody st_first_more, defScope st_first_more⟩,
  ⟨.meth "Book" "never_more", "never_more", "Book.never_more", defArgs st_Book_never_more, defBody st_Book_never_more, defScope st_Book_never_more⟩,
  ⟨.meth "Book" "less", "less", "Book.less", defArgs st_Book_less, defBody st_Book_less, defScope st_Book_less⟩,
  ⟨.glo "never_more", "never_more", "never_more", defArgs st_never_more, defBody st_never_more, defScope st_never_more⟩,
  ⟨.glo "_law_rule", "_law_rule", "_law_rule", defArgs st__law_rule, defBody st__law_rule, defScope st__law_rule⟩,
  ⟨.glo "_law_along", "_law_along", "_law_along", defArgs st__law_along, defBody st__law_along, defScope st__law_along⟩,
  ⟨.glo "_law_partner", "_law_partner", "_law_partner", defArgs st__law_partner, defBody st__law_partner, defScope st__law_partner⟩,
  ⟨.glo "_law_by_rule", "_law_by_rule", "_law_by_rule", defArgs st__law_by_rule, defBody st__law_by_rule, defScope st__law_by_rule⟩,
  ⟨.glo "is_manner", "is_manner", "is_manner", defArgs st_is_manner, defBody st_is_manner, defScope st_is_manner⟩,
  ⟨.glo "need_manner", "need_manner", "need_manner", defArgs st_need_manner, defBody st_need_manner, defScope st_need_manner⟩,
  ⟨.glo "line_of", "line_of", "line_of", defArgs st_line_of, defBody st_line_of, defScope st_line_of⟩,
  ⟨.glo "chosen_bill", "chosen_bill", "chosen_bill", defArgs st_chosen_bill, defBody st_chosen_bill, defScope st_chosen_bill⟩,
  ⟨.glo "partner", "partner", "partner", defArgs st_partner, defBody st_partner, defScope st_partner⟩,
  ⟨.glo "pairs_of", "pairs_of", "pairs_of", defArgs st_pairs_of, defBody st_pairs_of, defScope st_pairs_of⟩,
  ⟨.meth "Book" "laid", "laid", "Book.laid", defArgs st_Book_laid, defBody st_Book_laid, defScope st_Book_laid⟩,
  ⟨.glo "laid", "laid", "laid", defArgs st_laid, defBody st_laid, defScope st_laid⟩,
  ⟨.glo "_law_one", "_law_one", "_law_one", defArgs st__law_one, defBody st__law_one, defScope st__law_one⟩,
  ⟨.glo "law", "law", "law", defArgs st_law, defBody st_law, defScope st_law⟩]
section
variable {P : Program} {w : World} {K : PySem.W.Frag} {mg : Str → Option Value} {base : Heap}
/-! ### _law_bag_of -/
theorem sc__law_bag_of : FnScope ["cell", "spare"] ["cell"] (defScope st__law_bag_of) := sc_of (by decide +kernel)
def m__law_bag_of : MS :=
  (mSeq (mSet 1 (eC (.int 0))) (mSeq (mIf (eBin fGe (eVar 0) (eBin fPow (eC (.int 10)) (eC (.int 18)))) (mSet 1 (eBin fSub (eVar 0) (eBin fPow (eC (.int 10)) (eC (.int 18))))) mNext) (mRet (eLstO (aCons (eVar 1) (aCons (eBin fMod (eUn fInt (eVar 0)) (eBin fAdd (eBin fPow (eC (.int 10)) (eC (.int 24))) (eC (.int 7)))) (aCons (eC (.int 0)) aNil)))))))
def s__law_bag_of : FS := fnOfN 1 2 m__law_bag_of
theorem ok__law_bag_of (S : SX fa fn cd.lams K mg base) : FnS P w K mg base cn "_law_bag_of" 1 s__law_bag_of := by
  obtain ⟨fd, F⟩ := S.def_ 0
  exact fnS_of F (S.glo 1) sc__law_bag_of rfl (fun _ _ _ _ _ _ us hl => match us, hl with | [_], _ => rfl) (fun cdv A outer s H E W c =>
  (sss_cons (ss_set (i := 1) c.nd rfl (.inl rfl) se_int) (sss_cons (ss_if (cl := true) (st_cmp op_ge o2_cmp (se_var (i := 0) rfl (.inl rfl)) (se_bin op_pow o2_pow se_int se_int) rfl) (sss_one (ss_set (i := 1) c.nd rfl (.inl rfl) (se_bin op_sub o2_sub (se_var (i := 0) rfl (.inl rfl)) (se_bin op_pow o2_pow se_int se_int)))) sss_nil) (sss_one (ss_ret (cl := true) (se_lstO (sa_cons (se_var (i := 1) rfl (.inl rfl)) (sa_cons (se_bin op_mod o2_mod (x_int rfl (S.free 0) (se_var (i := 0) rfl (.inl rfl))) (se_bin op_addA o2_add (se_bin op_pow o2_pow se_int se_int) se_int)) (sa_cons se_int sa_nil)))))))))
/-! ### _law_pick -/
theorem sc__law_pick : FnScope ["jar", "many", "digit", "stir"] ["jar", "many"] (defScope st__law_pick) := sc_of (by decide +kernel)
def m__law_pick : MS :=
  (mSeq (mIf (eBin fGt (eBin fIx (eVar 0) (eC (.int 0))) (eC (.int 0))) (mSeq (mSet 2 (eBin fMod (eUn fInt (eBin fIx (eVar 0) (eC (.int 0)))) (eVar 1))) (mSeq (mPutO (eVar 0) (eC (.int 0)) (eBin fDiv (eBin fIx (eVar 0) (eC (.int 0))) (eVar 1))) (mRet (eVar 2)))) mNext) (mSeq (mPutO (eVar 0) (eC (.int 2)) (eBin fAdd (eBin fIx (eVar 0) (eC (.int 2))) (eC (.int 1)))) (mSeq (mSet 3 (eBin fAdd (eBin fMul (eUn fInt (eBin fAdd (eBin fIx (eVar 0) (eC (.int 1))) (eBin fMul (eC (.int 911)) (eBin fIx (eVar 0) (eC (.int 2)))))) (eBin fAdd (eBin fMul (eBin fIx (eVar 0) (eC (.int 2))) (eBin fIx (eVar 0) (eC (.int 2)))) (eC (.int 613)))) (eC (.int 5)))) (mSeq (mSet 3 (eBin fMod (eUn fInt (eBin fAdd (eBin fMul (eVar 3) (eVar 3)) (eBin fMul (eC (.int 40503)) (eVar 3)))) (eBin fAdd (eBin fPow (eC (.int 10)) (eC (.int 21))) (eC (.int 117))))) (mRet (eBin fMod (eBin fDiv (eBin fMod (eUn fInt (eBin fAdd (eBin fDiv (eBin fMul (eVar 3) (eVar 3)) (eBin fPow (eC (.int 10)) (eC (.int 9)))) (eBin fMul (eC (.int 31)) (eBin fIx (eVar 0) (eC (.int 2)))))) (eBin fAdd (eBin fPow (eC (.int 10)) (eC (.int 15))) (eC (.int 37)))) (eC (.int 11))) (eVar 1)))))))
def s__law_pick : FS := fnOfN 2 4 m__law_pick
theorem ok__law_pick (S : SX fa fn cd.lams K mg base) : FnS P w K mg base cn "_law_pick" 1 s__law_pick := by
  obtain ⟨fd, F⟩ := S.def_ 1
  exact fnS_of F (S.glo 4) sc__law_pick rfl (fun _ _ _ _ _ _ us hl => match us, hl with | [_, _], _ => rfl) (fun cdv A outer s H E W c =>
  (sss_cons (ss_if (cl := true) (st_cmp op_gt o2_cmp (se_ix (se_var (i := 0) rfl (.inl rfl)) se_int (fun _ _ => rfl)) se_int rfl) (sss_cons (ss_set (i := 2) c.nd rfl (.inl rfl) (se_bin op_mod o2_mod (x_int rfl (S.free 0) (se_ix (se_var (i := 0) rfl (.inl rfl)) se_int (fun _ _ => rfl))) (se_var (i := 1) rfl (.inl rfl)))) (sss_cons (ss_putO (se_bin op_fdivW o2_div (se_ix (se_var (i := 0) rfl (.inl rfl)) se_int (fun _ _ => rfl)) (se_var (i := 1) rfl (.inl rfl))) (se_var (i := 0) rfl (.inl rfl)) se_int) (sss_one (ss_ret (cl := true) (se_var (i := 2) rfl (.inl rfl)))))) sss_nil) (sss_cons (ss_putO (se_bin op_addA o2_add (se_ix (se_var (i := 0) rfl (.inl rfl)) se_int (fun _ _ => rfl)) se_int) (se_var (i := 0) rfl (.inl rfl)) se_int) (sss_cons (ss_set (i := 3) c.nd rfl (.inl rfl) (se_bin op_addA o2_add (se_bin op_mulW o2_mul (x_int rfl (S.free 0) (se_bin op_addA o2_add (se_ix (se_var (i := 0) rfl (.inl rfl)) se_int (fun _ _ => rfl)) (se_bin op_mulW o2_mul se_int (se_ix (se_var (i := 0) rfl (.inl rfl)) se_int (fun _ _ => rfl))))) (se_bin op_addA o2_add (se_bin op_mulW o2_mul (se_ix (se_var (i := 0) rfl (.inl rfl)) se_int (fun _ _ => rfl)) (se_ix (se_var (i := 0) rfl (.inl rfl)) se_int (fun _ _ => rfl))) se_int)) se_int)) (sss_cons (ss_set (i := 3) c.nd rfl (.inl rfl) (se_bin op_mod o2_mod (x_int rfl (S.free 0) (se_bin op_addA o2_add (se_bin op_mulW o2_mul (se_var (i := 3) rfl (.inl rfl)) (se_var (i := 3) rfl (.inl rfl))) (se_bin op_mulW o2_mul se_int (se_var (i := 3) rfl (.inl rfl))))) (se_bin op_addA o2_add (se_bin op_pow o2_pow se_int se_int) se_int))) (sss_one (ss_ret (cl := true) (se_bin op_mod o2_mod (se_bin op_fdivW o2_div (se_bin op_mod o2_mod (x_int rfl (S.free 0) (se_bin op_addA o2_add (se_bin op_fdivW o2_div (se_bin op_mulW o2_mul (se_var (i := 3) rfl (.inl rfl)) (se_var (i := 3) rfl (.inl rfl))) (se_bin op_pow o2_pow se_int se_int)) (se_bin op_mulW o2_mul se_int (se_ix (se_var (i := 0) rfl (.inl rfl)) se_int (fun _ _ => rfl))))) (se_bin op_addA o2_add (se_bin op_pow o2_pow se_int se_int) se_int)) se_int) (se_var (i := 1) rfl (.inl rfl))))))))))
/-! ### _law_with_names -/
theorem sc__law_with_names : FnScope ["jar", "entries", "found", "spot", "able", "k"] ["jar", "entries"] (defScope st__law_with_names) := sc_of (by decide +kernel)
def m__law_with_names : MS :=
  (mSeq (mOwn 2 (nOf (eVar 1))) (mSeq (mFor (itR1 (eUn fLen (eOwn 2))) (Tg.nm 3) (mIf (eAnd (eBin fEq (eBin fIx (eBin fIx (eOwn 2) (eVar 3)) (eC (.int 0))) (eC (.str "pay"))) (eBin fEq (eCall s__law_pick (aCons (eVar 0) (aCons (eC (.int 2)) aNil))) (eC (.int 1)))) (mSeq (mSetN 4 (lcM true (itR1 (eUn fLen (eOwn 2))) (Tg.nm 5) (eAnd (eBin fEq (eBin fIx (eBin fIx (eOwn 2) (eVar 5)) (eC (.int 0))) (eC (.str "bill"))) (eBin fLe (eBin fIx (eBin fIx (eOwn 2) (eVar 5)) (eC (.int 1))) (eBin fIx (eBin fIx (eOwn 2) (eVar 3)) (eC (.int 1))))) (eVar 5) [5])) (mIf (eBin fNe (eVar 4) (eLst aNil)) (mPutU 2 (eVar 3) (eTup (aCons (eC (.str "named")) (aCons (eBin fIx (eBin fIx (eOwn 2) (eVar 3)) (eC (.int 1))) (aCons (eBin fIx (eBin fIx (eOwn 2) (eVar 3)) (eC (.int 2))) (aCons (eBin fIx (eVar 4) (eCall s__law_pick (aCons (eVar 0) (aCons (eUn fLen (eVar 4)) aNil)))) aNil)))))) mNext)) mNext)) (mRet (eUn fTupOf (eOwn 2)))))
def s__law_with_names : FS := fnOfN 2 6 m__law_with_names
theorem ok__law_with_names (S : SX fa fn cd.lams K mg base) : FnS P w K mg base cn "_law_with_names" 2 s__law_with_names := by
  obtain ⟨fd, F⟩ := S.def_ 2
  exact fnS_of F (S.glo 7) sc__law_with_names rfl (fun _ _ _ _ _ _ us hl => match us, hl with | [_, _], _ => rfl) (fun cdv A outer s H E W c =>
  (sss_cons (ss_own (i := 2) c.nd rfl (.inr rfl) (sf_list rfl (S.free 2) (se_var (i := 1) rfl (.inl rfl)))) (sss_cons (ss_forR1 (t := (Tg.nm 3)) c rfl (S.free 5) (x_len rfl (S.free 3) (se_own (i := 2) rfl (.inr (.inl rfl)))) (pg_name (i := 3) c.nd rfl (.inr rfl)) (sss_one (ss_if (cl := false) (sw_pt (sw_and (st_cmp (op_eqA c.units) o2_eq (se_ix (se_ix (se_own (i := 2) rfl (.inr (.inl rfl))) (se_var (i := 3) rfl (.inr (.inl rfl))) (fun _ _ => rfl)) se_int (fun _ _ => rfl)) se_str rfl) (sw_and1 (st_cmp (op_eqA c.units) o2_eq (se_call ((ok__law_pick S).mono (by decide)) c.tk c.room rfl (sa_cons (se_var (i := 0) rfl (.inl rfl)) (sa_cons se_int sa_nil))) se_int rfl)))) (sss_cons (ss_setLcU (i := 4) (own := ([("k", 5)] : List (Str × Nat))) (t := (Tg.nm 5)) c.calm c.nd rfl rfl rfl (si_r1 rfl (S.free 5) (x_len rfl (S.free 3) (se_own (i := 2) rfl (.inr (.inl rfl))))) (blk_of (by kernel_rfl)) (fun _ _ _ _ _ => (pg_name (i := 5) c.nd rfl (.inl rfl))) (fun _ _ _ _ _ => (sts_one (sw_pt (sw_and (st_cmp (op_eqA c.units) o2_eq (se_ix (se_ix (se_own (i := 2) rfl (.inr (.inl rfl))) (se_var (i := 5) rfl (.inl rfl)) (fun _ _ => rfl)) se_int (fun _ _ => rfl)) se_str rfl) (sw_and1 (st_cmp op_le o2_cmp (se_ix (se_ix (se_own (i := 2) rfl (.inr (.inl rfl))) (se_var (i := 5) rfl (.inl rfl)) (fun _ _ => rfl)) se_int (fun _ _ => rfl)) (se_ix (se_ix (se_own (i := 2) rfl (.inr (.inl rfl))) (se_var (i := 3) rfl (.inr (.inl rfl))) (fun _ _ => rfl)) se_int (fun _ _ => rfl)) rfl)))))) (fun _ _ _ _ _ => (se_var (i := 5) rfl (.inl rfl)))) (sss_one (ss_if (cl := true) (st_cmp (op_neA c.units) o2_ne (se_var (i := 4) rfl (.inl rfl)) (se_lst sa_nil) rfl) (sss_one (ss_putU (cl := false) (i := 2) (se_tup (sa_cons se_str (sa_cons (se_ix (se_ix (se_own (i := 2) rfl (.inr (.inl rfl))) (se_var (i := 3) rfl (.inr (.inl rfl))) (fun _ _ => rfl)) se_int (fun _ _ => rfl)) (sa_cons (se_ix (se_ix (se_own (i := 2) rfl (.inr (.inl rfl))) (se_var (i := 3) rfl (.inr (.inl rfl))) (fun _ _ => rfl)) se_int (fun _ _ => rfl)) (sa_cons (se_ix (se_var (i := 4) rfl (.inl rfl)) (se_call ((ok__law_pick S).mono (by decide)) c.tk c.room rfl (sa_cons (se_var (i := 0) rfl (.inl rfl)) (sa_cons (x_len rfl (S.free 3) (se_var (i := 4) rfl (.inl rfl))) sa_nil))) (fun _ _ => rfl)) sa_nil))))) (pg_sub (pe_var (i := 2) rfl (.inr (.inl rfl))) (se_var (i := 3) rfl (.inr (.inl rfl))) set_list))) sss_nil))) sss_nil))) (sss_one (ss_ret (cl := false) (x_tuple rfl (S.free 6) (se_own (i := 2) rfl (.inr (.inl rfl)))))))))
/-! ### _law_some -/
theorem sc__law_some : FnScope ["jar", "many", "far", "top", "found", "spot", "word"] ["jar", "many", "far", "top"] (defScope st__law_some) := sc_of (by decide +kernel)
def m__law_some : MS :=
  (mSeq (mOwn 4 (nLst aNil)) (mSeq (mFor (itR1 (eVar 1)) (Tg.nm 5) (mSeq (mSet 6 (eBin fIx (eLst (aCons (eC (.str "bill")) (aCons (eC (.str "pay")) aNil))) (eCall s__law_pick (aCons (eVar 0) (aCons (eC (.int 2)) aNil))))) (mSeq (mApp 4 (eTup (aCons (eVar 6) (aCons (eBin fSub (eCall s__law_pick (aCons (eVar 0) (aCons (eBin fAdd (eBin fMul (eC (.int 2)) (eVar 2)) (eC (.int 1))) aNil))) (eVar 2)) (aCons (eBin fAdd (eC (.int 1)) (eCall s__law_pick (aCons (eVar 0) (aCons (eVar 3) aNil)))) aNil))))) (mIf (eBin fEq (eCall s__law_pick (aCons (eVar 0) (aCons (eC (.int 12)) aNil))) (eC (.int 7))) (mPut 4 (eVar 5) (eTup (aCons (eC (.str "struck")) aNil))) mNext)))) (mRet (eUn fTupOf (eOwn 4)))))
def s__law_some : FS := fnOfN 4 7 m__law_some
theorem ok__law_some (S : SX fa fn cd.lams K mg base) : FnS P w K mg base cn "_law_some" 2 s__law_some := by
  obtain ⟨fd, F⟩ := S.def_ 3
  exact fnS_of F (S.glo 8) sc__law_some rfl (fun _ _ _ _ _ _ us hl => match us, hl with | [_, _, _, _], _ => rfl) (fun cdv A outer s H E W c =>
  (sss_cons (ss_own (i := 4) c.nd rfl (.inl rfl) (sf_lst sa_nil)) (sss_cons (ss_for (t := (Tg.nm 5)) c (si_r1 rfl (S.free 5) (se_var (i := 1) rfl (.inl rfl))) (pg_name (i := 5) c.nd rfl (.inl rfl)) (sss_cons (ss_set (i := 6) c.nd rfl (.inl rfl) (se_ix (se_lst (sa_cons se_str (sa_cons se_str sa_nil))) (se_call ((ok__law_pick S).mono (by decide)) c.tk c.room rfl (sa_cons (se_var (i := 0) rfl (.inl rfl)) (sa_cons se_int sa_nil))) (fun _ _ => rfl))) (sss_cons (ss_app (i := 4) (pe_bm PySem.F.plainAttrs_list PySem.F.slot_list_append PySem.F.type_list_append mt_append (pe_var (i := 4) rfl (.inl rfl)) (pa_cons (se_tup (sa_cons (se_var (i := 6) rfl (.inl rfl)) (sa_cons (se_bin op_sub o2_sub (se_call ((ok__law_pick S).mono (by decide)) c.tk c.room rfl (sa_cons (se_var (i := 0) rfl (.inl rfl)) (sa_cons (se_bin op_addA o2_add (se_bin op_mulW o2_mul se_int (se_var (i := 2) rfl (.inl rfl))) se_int) sa_nil))) (se_var (i := 2) rfl (.inl rfl))) (sa_cons (se_bin op_addA o2_add se_int (se_call ((ok__law_pick S).mono (by decide)) c.tk c.room rfl (sa_cons (se_var (i := 0) rfl (.inl rfl)) (sa_cons (se_var (i := 3) rfl (.inl rfl)) sa_nil)))) sa_nil)))) pa_nil))) (sss_one (ss_if (cl := true) (st_cmp (op_eqA c.units) o2_eq (se_call ((ok__law_pick S).mono (by decide)) c.tk c.room rfl (sa_cons (se_var (i := 0) rfl (.inl rfl)) (sa_cons se_int sa_nil))) se_int rfl) (sss_one (ss_put (i := 4) (se_tup (sa_cons se_str sa_nil)) (pg_sub (pe_var (i := 4) rfl (.inl rfl)) (se_var (i := 5) rfl (.inl rfl)) set_list))) sss_nil))))) (sss_one (ss_ret (cl := false) (x_tuple rfl (S.free 6) (se_own (i := 4) rfl (.inl rfl))))))))
/-! ### _law_reach -/
theorem sc__law_reach : FnScope ["jar"] ["jar"] (defScope st__law_reach) := sc_of (by decide +kernel)
def m__law_reach : MS :=
  (mRet (eBin fIx (eLst (aCons (eC (.int 1)) (aCons (eC (.int 3)) (aCons (eC (.int 20)) (aCons (eC (.int 999000)) aNil))))) (eCall s__law_pick (aCons (eVar 0) (aCons (eC (.int 4)) aNil)))))
def s__law_reach : FS := fnOfN 1 1 m__law_reach
theorem ok__law_reach (S : SX fa fn cd.lams K mg base) : FnS P w K mg base cn "_law_reach" 2 s__law_reach := by
  obtain ⟨fd, F⟩ := S.def_ 4
  exact fnS_of F (S.glo 9) sc__law_reach rfl (fun _ _ _ _ _ _ us hl => match us, hl with | [_], _ => rfl) (fun cdv A outer s H E W c =>
  (sss_one (ss_ret (cl := true) (se_ix (se_lst (sa_cons se_int (sa_cons se_int (sa_cons se_int (sa_cons se_int sa_nil))))) (se_call ((ok__law_pick S).mono (by decide)) c.tk c.room rfl (sa_cons (se_var (i := 0) rfl (.inl rfl)) (sa_cons se_int sa_nil))) (fun _ _ => rfl)))))
/-! ### _law_height -/
theorem sc__law_height : FnScope ["jar"] ["jar"] (defScope st__law_height) := sc_of (by decide +kernel)
def m__law_height : MS :=
  (mRet (eBin fIx (eLst (aCons (eC (.int 2)) (aCons (eC (.int 4)) (aCons (eC (.int 12)) (aCons (eBin fPow (eC (.int 10)) (eC (.int 28))) aNil))))) (eCall s__law_pick (aCons (eVar 0) (aCons (eC (.int 4)) aNil)))))
def s__law_height : FS := fnOfN 1 1 m__law_height
theorem ok__law_height (S : SX fa fn cd.lams K mg base) : FnS P w K mg base cn "_law_height" 2 s__law_height := by
  obtain ⟨fd, F⟩ := S.def_ 5
  exact fnS_of F (S.glo 10) sc__law_height rfl (fun _ _ _ _ _ _ us hl => match us, hl with | [_], _ => rfl) (fun cdv A outer s H E W c =>
  (sss_one (ss_ret (cl := true) (se_ix (se_lst (sa_cons se_int (sa_cons se_int (sa_cons se_int (sa_cons (se_bin op_pow o2_pow se_int se_int) sa_nil))))) (se_call ((ok__law_pick S).mono (by decide)) c.tk c.room rfl (sa_cons (se_var (i := 0) rfl (.inl rfl)) (sa_cons se_int sa_nil))) (fun _ _ => rfl)))))
/-! ### _law_any -/
theorem sc__law_any : FnScope ["jar", "many"] ["jar", "many"] (defScope st__law_any) := sc_of (by decide +kernel)
def m__law_any : MS :=
  (mRet (eCall s__law_with_names (aCons (eVar 0) (aCons (eCall s__law_some (aCons (eVar 0) (aCons (eCall s__law_pick (aCons (eVar 0) (aCons (eVar 1) aNil))) (aCons (eCall s__law_reach (aCons (eVar 0) aNil)) (aCons (eCall s__law_height (aCons (eVar 0) aNil)) aNil))))) aNil))))
def s__law_any : FS := fnOfN 2 2 m__law_any
theorem ok__law_any (S : SX fa fn cd.lams K mg base) : FnS P w K mg base cn "_law_any" 3 s__law_any := by
  obtain ⟨fd, F⟩ := S.def_ 6
  exact fnS_of F (S.glo 11) sc__law_any rfl (fun _ _ _ _ _ _ us hl => match us, hl with | [_, _], _ => rfl) (fun cdv A outer s H E W c =>
  (sss_one (ss_ret (cl := true) (se_call ((ok__law_with_names S).mono (by decide)) c.tk c.room rfl (sa_cons (se_var (i := 0) rfl (.inl rfl)) (sa_cons (se_call ((ok__law_some S).mono (by decide)) c.tk c.room rfl (sa_cons (se_var (i := 0) rfl (.inl rfl)) (sa_cons (se_call ((ok__law_pick S).mono (by decide)) c.tk c.room rfl (sa_cons (se_var (i := 0) rfl (.inl rfl)) (sa_cons (se_var (i := 1) rfl (.inl rfl)) sa_nil))) (sa_cons (se_call ((ok__law_reach S).mono (by decide)) c.tk c.room rfl (sa_cons (se_var (i := 0) rfl (.inl rfl)) sa_nil)) (sa_cons (se_call ((ok__law_height S).mono (by decide)) c.tk c.room rfl (sa_cons (se_var (i := 0) rfl (.inl rfl)) sa_nil)) sa_nil))))) sa_nil))))))
/-! ### _law_other -/
theorem sc__law_other : FnScope ["jar", "entries", "way", "spots", "chosen", "row", "when", "put", "spot", "one"] ["jar", "entries"] (defScope st__law_other) := sc_of (by decide +kernel)
def m__law_other : MS :=
  (mSeq (mSet 2 (eCall s__law_pick (aCons (eVar 0) (aCons (eC (.int 4)) aNil)))) (mSeq (mSet_ 3 (lcM false (itR1 (eUn fLen (eVar 1))) (Tg.nm 8) (eBin (inD false) (eBin fIx (eBin fIx (eVar 1) (eVar 8)) (eC (.int 0))) (eTup (aCons (eC (.str "bill")) (aCons (eC (.str "pay")) aNil)))) (eVar 8) [8])) (mSeq (mIf (eOr (eBin fEq (eVar 2) (eC (.int 0))) (eBin fEq (eVar 3) (eLst aNil))) (mRet (eCall s__law_any (aCons (eVar 0) (aCons (eC (.int 9)) aNil)))) mNext) (mSeq (mSet 4 (eBin fIx (eVar 3) (eCall s__law_pick (aCons (eVar 0) (aCons (eUn fLen (eVar 3)) aNil))))) (mSeq (mSet 5 (eBin fIx (eVar 1) (eVar 4))) (mSeq (mIf (eBin fEq (eVar 2) (eC (.int 1))) (mSeq (mSet 6 (eBin fSub (eBin fAdd (eBin fIx (eVar 5) (eC (.int 1))) (eCall s__law_pick (aCons (eVar 0) (aCons (eC (.int 3)) aNil)))) (eC (.int 1)))) (mRet (eBin fAdd (eVar 1) (eTup (aCons (eTup (aCons (eBin fIx (eLst (aCons (eC (.str "bill")) (aCons (eC (.str "pay")) aNil))) (eCall s__law_pick (aCons (eVar 0) (aCons (eC (.int 2)) aNil)))) (aCons (eVar 6) (aCons (eBin fAdd (eC (.int 1)) (eCall s__law_pick (aCons (eVar 0) (aCons (eC (.int 3)) aNil)))) aNil)))) aNil))))) mNext) (mSeq (mSet 7 (eTup (aCons (eC (.str "struck")) aNil))) (mSeq (mIf (eBin fEq (eVar 2) (eC (.int 2))) (mSet 7 (eTup (aCons (eBin fIx (eVar 5) (eC (.int 0))) (aCons (eBin fIx (eVar 5) (eC (.int 1))) (aCons (eBin fAdd (eBin fIx (eVar 5) (eC (.int 2))) (eC (.int 1))) aNil))))) mNext) (mSeq (mIf (eUn fAny (eNew (lcM false (itSeq (eVar 1)) (Tg.nm 9) (eC (.bl true)) (eAnd (eBin fEq (eBin fIx (eVar 9) (eC (.int 0))) (eC (.str "named"))) (eBin fEq (eBin fIx (eVar 9) (eC (.int 3))) (eVar 4))) [9]))) (mRet (eVar 1)) mNext) (mRet (eBin fAdd (eBin fAdd (eSl (eVar 1) oNone (oSome (eVar 4))) (eTup (aCons (eVar 7) aNil))) (eSl (eVar 1) (oSome (eBin fAdd (eVar 4) (eC (.int 1)))) oNone))))))))))))
def s__law_other : FS := fnOfN 2 10 m__law_other
theorem ok__law_other (S : SX fa fn cd.lams K mg base) : FnS P w K mg base cn "_law_other" 4 s__law_other := by
  obtain ⟨fd, F⟩ := S.def_ 7
  exact fnS_of F (S.glo 13) sc__law_other rfl (fun _ _ _ _ _ _ us hl => match us, hl with | [_, _], _ => rfl) (fun cdv A outer s H E W c =>
  (sss_cons (ss_set (i := 2) c.nd rfl (.inl rfl) (se_call ((ok__law_pick S).mono (by decide)) c.tk c.room rfl (sa_cons (se_var (i := 0) rfl (.inl rfl)) (sa_cons se_int sa_nil)))) (sss_cons (ss_setLc (i := 3) (own := ([("spot", 8)] : List (Str × Nat))) (t := (Tg.nm 8)) c.calm c.nd rfl rfl rfl (si_r1 rfl (S.free 5) (x_len rfl (S.free 3) (se_var (i := 1) rfl (.inr (.inl rfl))))) (blk_of (by kernel_rfl)) (fun _ _ _ _ _ => (pg_name (i := 8) c.nd rfl (.inl rfl))) (fun _ _ _ _ _ => (sts_one (st_cmp op_in_seq o2_in (se_ix (se_ix (se_var (i := 1) rfl (.inr (.inl rfl))) (se_var (i := 8) rfl (.inl rfl)) (fun _ _ => rfl)) se_int (fun _ _ => rfl)) (se_tup (sa_cons se_str (sa_cons se_str sa_nil))) rfl))) (fun _ _ _ _ _ => (se_var (i := 8) rfl (.inl rfl)))) (sss_cons (ss_if (cl := true) (sw_pt (sw_or (st_cmp (op_eqA c.units) o2_eq (se_var (i := 2) rfl (.inl rfl)) se_int rfl) (sw_or1 (st_cmp (op_eqA c.units) o2_eq (se_var (i := 3) rfl (.inl rfl)) (se_lst sa_nil) rfl)))) (sss_one (ss_ret (cl := true) (se_call ((ok__law_any S).mono (by decide)) c.tk c.room rfl (sa_cons (se_var (i := 0) rfl (.inl rfl)) (sa_cons se_int sa_nil))))) sss_nil) (sss_cons (ss_set (i := 4) c.nd rfl (.inr rfl) (se_ix (se_var (i := 3) rfl (.inl rfl)) (se_call ((ok__law_pick S).mono (by decide)) c.tk c.room rfl (sa_cons (se_var (i := 0) rfl (.inl rfl)) (sa_cons (x_len rfl (S.free 3) (se_var (i := 3) rfl (.inl rfl))) sa_nil))) (fun _ _ => rfl))) (sss_cons (ss_set (i := 5) c.nd rfl (.inl rfl) (se_ix (se_var (i := 1) rfl (.inr (.inl rfl))) (se_var (i := 4) rfl (.inr (.inl rfl))) (fun _ _ => rfl))) (sss_cons (ss_if (cl := true) (st_cmp (op_eqA c.units) o2_eq (se_var (i := 2) rfl (.inl rfl)) se_int rfl) (sss_cons (ss_set (i := 6) c.nd rfl (.inl rfl) (se_bin op_sub o2_sub (se_bin op_addA o2_add (se_ix (se_var (i := 5) rfl (.inl rfl)) se_int (fun _ _ => rfl)) (se_call ((ok__law_pick S).mono (by decide)) c.tk c.room rfl (sa_cons (se_var (i := 0) rfl (.inl rfl)) (sa_cons se_int sa_nil)))) se_int)) (sss_one (ss_ret (cl := true) (se_bin op_addA o2_add (se_var (i := 1) rfl (.inr (.inl rfl))) (se_tup (sa_cons (se_tup (sa_cons (se_ix (se_lst (sa_cons se_str (sa_cons se_str sa_nil))) (se_call ((ok__law_pick S).mono (by decide)) c.tk c.room rfl (sa_cons (se_var (i := 0) rfl (.inl rfl)) (sa_cons se_int sa_nil))) (fun _ _ => rfl)) (sa_cons (se_var (i := 6) rfl (.inl rfl)) (sa_cons (se_bin op_addA o2_add se_int (se_call ((ok__law_pick S).mono (by decide)) c.tk c.room rfl (sa_cons (se_var (i := 0) rfl (.inl rfl)) (sa_cons se_int sa_nil)))) sa_nil)))) sa_nil)))))) sss_nil) (sss_cons (ss_set (i := 7) c.nd rfl (.inl rfl) (se_tup (sa_cons se_str sa_nil))) (sss_cons (ss_if (cl := true) (st_cmp (op_eqA c.units) o2_eq (se_var (i := 2) rfl (.inl rfl)) se_int rfl) (sss_one (ss_set (i := 7) c.nd rfl (.inl rfl) (se_tup (sa_cons (se_ix (se_var (i := 5) rfl (.inl rfl)) se_int (fun _ _ => rfl)) (sa_cons (se_ix (se_var (i := 5) rfl (.inl rfl)) se_int (fun _ _ => rfl)) (sa_cons (se_bin op_addA o2_add (se_ix (se_var (i := 5) rfl (.inl rfl)) se_int (fun _ _ => rfl)) se_int) sa_nil)))))) sss_nil) (sss_cons (ss_if (cl := true) (st_val (x_any c.calm rfl (S.free 12) (se_new (sf_lc (own := ([("one", 9)] : List (Str × Nat))) (t := (Tg.nm 9)) (ck := false) c.calm c.nd (si_seq (se_var (i := 1) rfl (.inr (.inl rfl)))) (blk_of (by kernel_rfl)) (fun _ _ _ _ _ => (pg_name (i := 9) c.nd rfl (.inl rfl))) (fun _ _ _ _ _ => sts_nil) (fun _ _ _ _ _ => (se_and (se_cmp (op_eqA c.units) o2_eq (se_ix (se_var (i := 9) rfl (.inl rfl)) se_int (fun _ _ => rfl)) se_str rfl) (se_one (se_cmp (op_eqA c.units) o2_eq (se_ix (se_var (i := 9) rfl (.inl rfl)) se_int (fun _ _ => rfl)) (se_var (i := 4) rfl (.inr (.inl rfl))) rfl)))))))) (sss_one (ss_ret (cl := true) (se_var (i := 1) rfl (.inr (.inl rfl))))) sss_nil) (sss_one (ss_ret (cl := true) (se_bin op_addA o2_add (se_bin op_addA o2_add (se_sl (se_var (i := 1) rfl (.inr (.inl rfl))) so_none (so_some (se_var (i := 4) rfl (.inr (.inl rfl))))) (se_tup (sa_cons (se_var (i := 7) rfl (.inl rfl)) sa_nil))) (se_sl (se_var (i := 1) rfl (.inr (.inl rfl))) (so_some (se_bin op_addA o2_add (se_var (i := 4) rfl (.inr (.inl rfl))) se_int)) so_none))))))))))))))
/-! ### _law_turning_days -/
theorem sc__law_turning_days : FnScope ["entries", "spots", "row"] ["entries"] (defScope st__law_turning_days) := sc_of (by decide +kernel)
def m__law_turning_days : MS :=
  (mSeq (mSet 1 (eUn fSortSet (eNew (lcM false (itSeq (eVar 0)) (Tg.nm 2) (eBin fNe (eBin fIx (eVar 2) (eC (.int 0))) (eC (.str "struck"))) (eBin fIx (eVar 2) (eC (.int 1))) [2])))) (mRet (eIf (eBin fNe (eVar 1) (eLst aNil)) (eBin fAdd (eLst (aCons (eBin fSub (eBin fIx (eVar 1) (eC (.int 0))) (eC (.int 1))) aNil)) (eVar 1)) (eLst (aCons (eC (.int 0)) aNil)))))
def s__law_turning_days : FS := fnOfN 1 3 m__law_turning_days
theorem ok__law_turning_days (S : SX fa fn cd.lams K mg base) : FnS P w K mg base cn "_law_turning_days" 1 s__law_turning_days := by
  obtain ⟨fd, F⟩ := S.def_ 8
  exact fnS_of F (S.glo 16) sc__law_turning_days rfl (fun _ _ _ _ _ _ us hl => match us, hl with | [_], _ => rfl) (fun cdv A outer s H E W c =>
  (sss_cons (ss_set (i := 1) c.nd rfl (.inl rfl) (x_sortSet c.calm c.units rfl (S.free 14) rfl (S.free 15) (se_new (sf_lc (own := ([("row", 2)] : List (Str × Nat))) (t := (Tg.nm 2)) (ck := false) c.calm c.nd (si_seq (se_var (i := 0) rfl (.inl rfl))) (blk_of (by kernel_rfl)) (fun _ _ _ _ _ => (pg_name (i := 2) c.nd rfl (.inl rfl))) (fun _ _ _ _ _ => (sts_one (st_cmp (op_neA c.units) o2_ne (se_ix (se_var (i := 2) rfl (.inl rfl)) se_int (fun _ _ => rfl)) se_str rfl))) (fun _ _ _ _ _ => (se_ix (se_var (i := 2) rfl (.inl rfl)) se_int (fun _ _ => rfl))))))) (sss_one (ss_ret (cl := true) (se_if (st_cmp (op_neA c.units) o2_ne (se_var (i := 1) rfl (.inl rfl)) (se_lst sa_nil) rfl) (se_bin op_addA o2_add (se_lst (sa_cons (se_bin op_sub o2_sub (se_ix (se_var (i := 1) rfl (.inl rfl)) se_int (fun _ _ => rfl)) se_int) sa_nil)) (se_var (i := 1) rfl (.inl rfl))) (se_lst (sa_cons se_int sa_nil)))))))
/-! ### has_word -/
theorem sc_has_word : FnScope ["value", "words"] ["value", "words"] (defScope st_has_word) := sc_of (by decide +kernel)
def m_has_word : MS :=
  (mRet (eAnd (eUn (fIsB g "tuple") (eVar 0)) (eAnd (eBin fGt (eUn fLen (eVar 0)) (eC (.int 0))) (eAnd (eUn (fIsB g "str") (eBin fIx (eVar 0) (eC (.int 0)))) (eBin (inD false) (eBin fIx (eVar 0) (eC (.int 0))) (eVar 1))))))
def s_has_word : FS := fnOfN 2 2 m_has_word
theorem ok_has_word (S : SX fa fn cd.lams K mg base) : FnS P w K mg base cn "has_word" 1 s_has_word := by
  obtain ⟨fd, F⟩ := S.def_ 9
  exact fnS_of F (S.glo 20) sc_has_word rfl (fun _ _ _ _ _ _ us hl => match us, hl with | [_, _], _ => rfl) (fun cdv A outer s H E W c =>
  (sss_one (ss_ret (cl := true) (se_and (se_isB (n := "tuple") (S.kf 17) rfl (S.free 18) (se_var (i := 0) rfl (.inl rfl)) rfl (S.free 6) blt_tuple (by decide)) (se_and (se_cmp op_gt o2_cmp (x_len rfl (S.free 3) (se_var (i := 0) rfl (.inl rfl))) se_int rfl) (se_and (se_isB (n := "str") (S.kf 17) rfl (S.free 18) (se_ix (se_var (i := 0) rfl (.inl rfl)) se_int (fun _ _ => rfl)) rfl (S.free 19) blt_str (by decide)) (se_one (se_cmp op_in_seq o2_in (se_ix (se_var (i := 0) rfl (.inl rfl)) se_int (fun _ _ => rfl)) (se_var (i := 1) rfl (.inl rfl)) rfl))))))))
/-! ### is_integer -/
theorem sc_is_integer : FnScope ["value"] ["value"] (defScope st_is_integer) := sc_of (by decide +kernel)
def m_is_integer : MS :=
  (mRet (eAnd (eUn (fIsB g "int") (eVar 0)) (eNot (eUn (fIsB g "bool") (eVar 0)))))
def s_is_integer : FS := fnOfN 1 1 m_is_integer
theorem ok_is_integer (S : SX fa fn cd.lams K mg base) : FnS P w K mg base cn "is_integer" 1 s_is_integer := by
  obtain ⟨fd, F⟩ := S.def_ 10
  exact fnS_of F (S.glo 22) sc_is_integer rfl (fun _ _ _ _ _ _ us hl => match us, hl with | [_], _ => rfl) (fun cdv A outer s H E W c =>
  (sss_one (ss_ret (cl := true) (se_and (se_isB (n := "int") (S.kf 17) rfl (S.free 18) (se_var (i := 0) rfl (.inl rfl)) rfl (S.free 0) blt_int (by decide)) (se_one (se_not (se_isB (n := "bool") (S.kf 17) rfl (S.free 18) (se_var (i := 0) rfl (.inl rfl)) rfl (S.free 21) blt_bool (by decide))))))))
/-! ### is_plain_entry -/
theorem sc_is_plain_entry : FnScope ["value"] ["value"] (defScope st_is_plain_entry) := sc_of (by decide +kernel)
def m_is_plain_entry : MS :=
  (mSeq (mIf (eOr (eNot (eCall s_has_word (aCons (eVar 0) (aCons (eTup (aCons (eC (.str "bill")) (aCons (eC (.str "pay")) aNil))) aNil)))) (eBin fNe (eUn fLen (eVar 0)) (eC (.int 3)))) (mRet (eC (.bl false))) mNext) (mRet (eAnd (eCall s_is_integer (aCons (eBin fIx (eVar 0) (eC (.int 1))) aNil)) (eAnd (eCall s_is_integer (aCons (eBin fIx (eVar 0) (eC (.int 2))) aNil)) (eBin fGe (eBin fIx (eVar 0) (eC (.int 2))) (eC (.int 1)))))))
def s_is_plain_entry : FS := fnOfN 1 1 m_is_plain_entry
theorem ok_is_plain_entry (S : SX fa fn cd.lams K mg base) : FnS P w K mg base cn "is_plain_entry" 2 s_is_plain_entry := by
  obtain ⟨fd, F⟩ := S.def_ 11
  exact fnS_of F (S.glo 23) sc_is_plain_entry rfl (fun _ _ _ _ _ _ us hl => match us, hl with | [_], _ => rfl) (fun cdv A outer s H E W c =>
  (sss_cons (ss_if (cl := true) (sw_pt (sw_or (st_not (st_val (se_call ((ok_has_word S).mono (by decide)) c.tk c.room rfl (sa_cons (se_var (i := 0) rfl (.inl rfl)) (sa_cons (se_tup (sa_cons se_str (sa_cons se_str sa_nil))) sa_nil))))) (sw_or1 (st_cmp (op_neA c.units) o2_ne (x_len rfl (S.free 3) (se_var (i := 0) rfl (.inl rfl))) se_int rfl)))) (sss_one (ss_ret (cl := true) se_bl)) sss_nil) (sss_one (ss_ret (cl := true) (se_and (se_call ((ok_is_integer S).mono (by decide)) c.tk c.room rfl (sa_cons (se_ix (se_var (i := 0) rfl (.inl rfl)) se_int (fun _ _ => rfl)) sa_nil)) (se_and (se_call ((ok_is_integer S).mono (by decide)) c.tk c.room rfl (sa_cons (se_ix (se_var (i := 0) rfl (.inl rfl)) se_int (fun _ _ => rfl)) sa_nil)) (se_one (se_cmp op_ge o2_cmp (se_ix (se_var (i := 0) rfl (.inl rfl)) se_int (fun _ _ => rfl)) se_int rfl))))))))
/-! ### has_entry_form -/
theorem sc_has_entry_form : FnScope ["value"] ["value"] (defScope st_has_entry_form) := sc_of (by decide +kernel)
def m_has_entry_form : MS :=
  (mSeq (mIf (eCall s_has_word (aCons (eVar 0) (aCons (eTup (aCons (eC (.str "struck")) aNil)) aNil))) (mRet (eBin fEq (eUn fLen (eVar 0)) (eC (.int 1)))) mNext) (mSeq (mIf (eAnd (eCall s_has_word (aCons (eVar 0) (aCons (eTup (aCons (eC (.str "named")) aNil)) aNil))) (eBin fEq (eUn fLen (eVar 0)) (eC (.int 4)))) (mRet (eAnd (eCall s_is_plain_entry (aCons (eTup (aCons (eC (.str "pay")) (aCons (eBin fIx (eVar 0) (eC (.int 1))) (aCons (eBin fIx (eVar 0) (eC (.int 2))) aNil)))) aNil)) (eCall s_is_integer (aCons (eBin fIx (eVar 0) (eC (.int 3))) aNil)))) mNext) (mRet (eCall s_is_plain_entry (aCons (eVar 0) aNil)))))
def s_has_entry_form : FS := fnOfN 1 1 m_has_entry_form
theorem ok_has_entry_form (S : SX fa fn cd.lams K mg base) : FnS P w K mg base cn "has_entry_form" 3 s_has_entry_form := by
  obtain ⟨fd, F⟩ := S.def_ 12
  exact fnS_of F (S.glo 24) sc_has_entry_form rfl (fun _ _ _ _ _ _ us hl => match us, hl with | [_], _ => rfl) (fun cdv A outer s H E W c =>
  (sss_cons (ss_if (cl := true) (st_val (se_call ((ok_has_word S).mono (by decide)) c.tk c.room rfl (sa_cons (se_var (i := 0) rfl (.inl rfl)) (sa_cons (se_tup (sa_cons se_str sa_nil)) sa_nil)))) (sss_one (ss_ret (cl := true) (se_cmp (op_eqA c.units) o2_eq (x_len rfl (S.free 3) (se_var (i := 0) rfl (.inl rfl))) se_int rfl))) sss_nil) (sss_cons (ss_if (cl := true) (sw_pt (sw_and (st_val (se_call ((ok_has_word S).mono (by decide)) c.tk c.room rfl (sa_cons (se_var (i := 0) rfl (.inl rfl)) (sa_cons (se_tup (sa_cons se_str sa_nil)) sa_nil)))) (sw_and1 (st_cmp (op_eqA c.units) o2_eq (x_len rfl (S.free 3) (se_var (i := 0) rfl (.inl rfl))) se_int rfl)))) (sss_one (ss_ret (cl := true) (se_and (se_call ((ok_is_plain_entry S).mono (by decide)) c.tk c.room rfl (sa_cons (se_tup (sa_cons se_str (sa_cons (se_ix (se_var (i := 0) rfl (.inl rfl)) se_int (fun _ _ => rfl)) (sa_cons (se_ix (se_var (i := 0) rfl (.inl rfl)) se_int (fun _ _ => rfl)) sa_nil)))) sa_nil)) (se_one (se_call ((ok_is_integer S).mono (by decide)) c.tk c.room rfl (sa_cons (se_ix (se_var (i := 0) rfl (.inl rfl)) se_int (fun _ _ => rfl)) sa_nil)))))) sss_nil) (sss_one (ss_ret (cl := true) (se_call ((ok_is_plain_entry S).mono (by decide)) c.tk c.room rfl (sa_cons (se_var (i := 0) rfl (.inl rfl)) sa_nil)))))))
/-! ### names_rightly -/
theorem sc_names_rightly : FnScope ["value", "entry", "other"] ["value", "entry"] (defScope st_names_rightly) := sc_of (by decide +kernel)
def m_names_rightly : MS :=
  (mSeq (mIf (eBin fNe (eBin fIx (eVar 1) (eC (.int 0))) (eC (.str "named"))) (mRet (eC (.bl true))) mNext) (mSeq (mIf (eNot (eChain fLe fLt (eC (.int 0)) (eBin fIx (eVar 1) (eC (.int 3))) (eUn fLen (eVar 0)))) (mRet (eC (.bl false))) mNext) (mSeq (mSet 2 (eBin fIx (eVar 0) (eBin fIx (eVar 1) (eC (.int 3))))) (mRet (eAnd (eBin fEq (eBin fIx (eVar 2) (eC (.int 0))) (eC (.str "bill"))) (eBin fLe (eBin fIx (eVar 2) (eC (.int 1))) (eBin fIx (eVar 1) (eC (.int 1)))))))))
def s_names_rightly : FS := fnOfN 2 3 m_names_rightly
theorem ok_names_rightly (S : SX fa fn cd.lams K mg base) : FnS P w K mg base cn "names_rightly" 1 s_names_rightly := by
  obtain ⟨fd, F⟩ := S.def_ 13
  exact fnS_of F (S.glo 26) sc_names_rightly rfl (fun _ _ _ _ _ _ us hl => match us, hl with | [_, _], _ => rfl) (fun cdv A outer s H E W c =>
  (sss_cons (ss_if (cl := true) (st_cmp (op_neA c.units) o2_ne (se_ix (se_var (i := 1) rfl (.inl rfl)) se_int (fun _ _ => rfl)) se_str rfl) (sss_one (ss_ret (cl := true) se_bl)) sss_nil) (sss_cons (ss_if (cl := true) (st_not (st_chain op_le op_lt o2_cmp o2_cmp se_int (se_ix (se_var (i := 1) rfl (.inl rfl)) se_int (fun _ _ => rfl)) (x_len rfl (S.free 3) (se_var (i := 0) rfl (.inl rfl))))) (sss_one (ss_ret (cl := true) se_bl)) sss_nil) (sss_cons (ss_set (i := 2) c.nd rfl (.inl rfl) (se_ix (se_var (i := 0) rfl (.inl rfl)) (se_ix (se_var (i := 1) rfl (.inl rfl)) se_int (fun _ _ => rfl)) (fun _ _ => rfl))) (sss_one (ss_ret (cl := true) (se_and (se_cmp (op_eqA c.units) o2_eq (se_ix (se_var (i := 2) rfl (.inl rfl)) se_int (fun _ _ => rfl)) se_str rfl) (se_one (se_cmp op_le o2_cmp (se_ix (se_var (i := 2) rfl (.inl rfl)) se_int (fun _ _ => rfl)) (se_ix (se_var (i := 1) rfl (.inl rfl)) se_int (fun _ _ => rfl)) rfl)))))))))
/-! ### is_account -/
theorem sc_is_account : FnScope ["value", "entry"] ["value"] (defScope st_is_account) := sc_of (by decide +kernel)
def m_is_account : MS :=
  (mSeq (mIf (eNot (eUn (fIsB g "tuple") (eVar 0))) (mRet (eC (.bl false))) mNext) (mSeq (mIf (eNot (eUn fAll (eNew (lcM false (itSeq (eVar 0)) (Tg.nm 1) (eC (.bl true)) (eCall s_has_entry_form (aCons (eVar 1) aNil)) [1])))) (mRet (eC (.bl false))) mNext) (mRet (eUn fAll (eNew (lcM false (itSeq (eVar 0)) (Tg.nm 1) (eC (.bl true)) (eCall s_names_rightly (aCons (eVar 0) (aCons (eVar 1) aNil))) [1]))))))
def s_is_account : FS := fnOfN 1 2 m_is_account
theorem ok_is_account (S : SX fa fn cd.lams K mg base) : FnS P w K mg base cn "is_account" 4 s_is_account := by
  obtain ⟨fd, F⟩ := S.def_ 14
  exact fnS_of F (S.glo 27) sc_is_account rfl (fun _ _ _ _ _ _ us hl => match us, hl with | [_], _ => rfl) (fun cdv A outer s H E W c =>
  (sss_cons (ss_if (cl := true) (st_not (st_val (se_isB (n := "tuple") (S.kf 17) rfl (S.free 18) (se_var (i := 0) rfl (.inr (.inl rfl))) rfl (S.free 6) blt_tuple (by decide)))) (sss_one (ss_ret (cl := true) se_bl)) sss_nil) (sss_cons (ss_if (cl := true) (st_not (st_val (x_all c.calm rfl (S.free 25) (se_new (sf_lc (own := ([("entry", 1)] : List (Str × Nat))) (t := (Tg.nm 1)) (ck := false) c.calm c.nd (si_seq (se_var (i := 0) rfl (.inr (.inl rfl)))) (blk_of (by kernel_rfl)) (fun _ _ _ _ _ => (pg_name (i := 1) c.nd rfl (.inl rfl))) (fun _ _ _ _ _ => sts_nil) (fun _ _ _ _ _ => (se_call ((ok_has_entry_form S).mono (by decide)) tkF c.room rfl (sa_cons (se_var (i := 1) rfl (.inl rfl)) sa_nil)))))))) (sss_one (ss_ret (cl := true) se_bl)) sss_nil) (sss_one (ss_ret (cl := true) (x_all c.calm rfl (S.free 25) (se_new (sf_lc (own := ([("entry", 1)] : List (Str × Nat))) (t := (Tg.nm 1)) (ck := false) c.calm c.nd (si_seq (se_var (i := 0) rfl (.inr (.inl rfl)))) (blk_of (by kernel_rfl)) (fun _ _ _ _ _ => (pg_name (i := 1) c.nd rfl (.inl rfl))) (fun _ _ _ _ _ => sts_nil) (fun _ _ _ _ _ => (se_call ((ok_names_rightly S).mono (by decide)) tkF c.room rfl (sa_cons (se_var (i := 0) rfl (.inr (.inl rfl))) (sa_cons (se_var (i := 1) rfl (.inl rfl)) sa_nil))))))))))))
/-! ### need_account -/
theorem sc_need_account : FnScope ["value"] ["value"] (defScope st_need_account) := sc_of (by decide +kernel)
def m_need_account : MS :=
  (mIf (eNot (eCall s_is_account (aCons (eVar 0) aNil))) (mRaise 1) mNext)
def s_need_account : FS := fnOfN 1 1 m_need_account
theorem ok_need_account (S : SX fa fn cd.lams K mg base) : FnS P w K mg base cn "need_account" 5 s_need_account := by
  obtain ⟨fd, F⟩ := S.def_ 15
  exact fnS_of F (S.glo 29) sc_need_account rfl (fun _ _ _ _ _ _ us hl => match us, hl with | [_], _ => rfl) (fun cdv A outer s H E W c =>
  (sss_one (ss_if (cl := true) (st_not (st_val (se_call ((ok_is_account S).mono (by decide)) c.tk c.room rfl (sa_cons (se_var (i := 0) rfl (.inl rfl)) sa_nil)))) (sss_one (ss_raise c (S.exc 28) rfl rfl)) sss_nil)))
def Ft_entries : Nat → Bool := ftab [6]
theorem fo_entries (S : SX fa fn cd.lams K mg base) : FldOk K cn Ft_entries "entries" := fld_cons (S.cls 30) (S.noat 31) (fld_nil)
/-! ### Book.__init__ -/
theorem sc_Book___init__ : FnScope ["self", "entries"] ["self", "entries"] (defScope st_Book___init__) := sc_of (by decide +kernel)
def m_Book___init__ : MS :=
  (mSeq (mDrop (eCall s_need_account (aCons (eVar 1) aNil))) (mFld Ft_entries "entries" (eVar 0) (eVar 1)))
def s_Book___init__ : FS := fnOfS 1 2 m_Book___init__
theorem ok_Book___init__ (S : SX fa fn cd.lams K mg base) : FnT P w K mg base cn (FAt.ad K (.meth "Book" "__init__")) 6 s_Book___init__ := by
  obtain ⟨fd, F⟩ := S.def_ 16
  exact fnT_star (ps := ["self"]) F sc_Book___init__ rfl (fun _ _ _ _ _ _ us rest hl => match us, hl, rest with | [_], _, [] => rfl | [_], _, _ :: _ => rfl) (fun cdv A outer s H E W c =>
  (sss_cons (ss_expr (cl := true) (se_call ((ok_need_account S).mono (by decide)) c.tk c.room rfl (sa_cons (se_var (i := 1) rfl (.inl rfl)) sa_nil))) (sss_one (ss_fld (fo_entries S) (se_var (i := 0) rfl (.inl rfl)) (se_var (i := 1) rfl (.inl rfl))))))
theorem ci_Book (S : SX fa fn cd.lams K mg base) : ClsI P w K mg base cn "Book" 6 6 s_Book___init__ :=
  ⟨_, (S.mkr 32).1, (S.mkr 32).2, ok_Book___init__ S⟩
/-! ### Book.of -/
theorem sc_Book_of : FnScope ["account"] ["account"] (defScope st_Book_of) := sc_of (by decide +kernel)
def m_Book_of : MS :=
  (mSeq (mDrop (eCall s_need_account (aCons (eVar 0) aNil))) (mRet (eCall (fMake 6 s_Book___init__) (aStar (eVar 0)))))
def s_Book_of : FS := fnOfN 1 1 m_Book_of
theorem ok_Book_of (S : SX fa fn cd.lams K mg base) : FnT P w K mg base cn (FAt.ad K (.smeth "Book" "of")) 8 s_Book_of := by
  obtain ⟨fd, F⟩ := S.def_ 17
  exact fnT_of F sc_Book_of rfl (fun _ _ _ _ _ _ us hl => match us, hl with | [_], _ => rfl) (fun cdv A outer s H E W c =>
  (sss_cons (ss_expr (cl := true) (se_call ((ok_need_account S).mono (by decide)) c.tk c.room rfl (sa_cons (se_var (i := 0) rfl (.inl rfl)) sa_nil))) (sss_one (ss_ret (cl := true) (se_makeS (k := 6) (ci_Book S) c.tk (c.room.mono (by decide)) rfl (se_var (i := 0) rfl (.inl rfl)))))))
/-! ### _law_volume -/
theorem sc__law_volume : FnScope ["entries", "ones"] ["entries"] (defScope st__law_volume) := sc_of (by decide +kernel)
def m__law_volume : MS :=
  (mSeq (mIf (eBin fEq (eUn fLen (eVar 0)) (eC (.int 0))) (mRet (eCall (fMake 6 s_Book___init__) aNil)) mNext) (mSeq (mIf (eBin fEq (eUn fLen (eVar 0)) (eC (.int 1))) (mRet (eCall (fMake 6 s_Book___init__) (aCons (eBin fIx (eVar 0) (eC (.int 0))) aNil))) mNext) (mSeq (mIf (eBin fEq (eUn fLen (eVar 0)) (eC (.int 3))) (mRet (eCall (fMake 6 s_Book___init__) (aCons (eBin fIx (eVar 0) (eC (.int 0))) (aCons (eBin fIx (eVar 0) (eC (.int 1))) (aCons (eBin fIx (eVar 0) (eC (.int 2))) aNil))))) mNext) (mSeq (mIf (eBin fEq (eUn fLen (eVar 0)) (eC (.int 6))) (mRet (eCall (fMake 6 s_Book___init__) (aCons (eBin fIx (eVar 0) (eC (.int 0))) (aCons (eBin fIx (eVar 0) (eC (.int 1))) (aCons (eBin fIx (eVar 0) (eC (.int 2))) (aCons (eBin fIx (eVar 0) (eC (.int 3))) (aCons (eBin fIx (eVar 0) (eC (.int 4))) (aCons (eBin fIx (eVar 0) (eC (.int 5))) aNil)))))))) mNext) (mSeq (mIf (eBin fEq (eUn fLen (eVar 0)) (eC (.int 10))) (mSeq (mSet 1 (eVar 0)) (mRet (eCall (fMake 6 s_Book___init__) (aCons (eBin fIx (eVar 1) (eC (.int 0))) (aCons (eBin fIx (eVar 1) (eC (.int 1))) (aCons (eBin fIx (eVar 1) (eC (.int 2))) (aCons (eBin fIx (eVar 1) (eC (.int 3))) (aCons (eBin fIx (eVar 1) (eC (.int 4))) (aCons (eBin fIx (eVar 1) (eC (.int 5))) (aCons (eBin fIx (eVar 1) (eC (.int 6))) (aCons (eBin fIx (eVar 1) (eC (.int 7))) (aCons (eBin fIx (eVar 1) (eC (.int 8))) (aCons (eBin fIx (eVar 1) (eC (.int 9))) aNil))))))))))))) mNext) (mRet (eCall s_Book_of (aCons (eVar 0) aNil))))))))
def s__law_volume : FS := fnOfN 1 2 m__law_volume
theorem ok__law_volume (S : SX fa fn cd.lams K mg base) : FnS P w K mg base cn "_law_volume" 9 s__law_volume := by
  obtain ⟨fd, F⟩ := S.def_ 18
  exact fnS_of F (S.glo 35) sc__law_volume rfl (fun _ _ _ _ _ _ us hl => match us, hl with | [_], _ => rfl) (fun cdv A outer s H E W c =>
  (sss_cons (ss_if (cl := true) (st_cmp (op_eqA c.units) o2_eq (x_len rfl (S.free 3) (se_var (i := 0) rfl (.inl rfl))) se_int rfl) (sss_one (ss_ret (cl := true) (se_make0 (k := 6) (ci_Book S) c.tk (c.room.mono (by decide)) rfl))) sss_nil) (sss_cons (ss_if (cl := true) (st_cmp (op_eqA c.units) o2_eq (x_len rfl (S.free 3) (se_var (i := 0) rfl (.inl rfl))) se_int rfl) (sss_one (ss_ret (cl := true) (se_make (k := 6) (ci_Book S) c.tk (c.room.mono (by decide)) rfl (sa_cons (se_ix (se_var (i := 0) rfl (.inl rfl)) se_int (fun _ _ => rfl)) sa_nil)))) sss_nil) (sss_cons (ss_if (cl := true) (st_cmp (op_eqA c.units) o2_eq (x_len rfl (S.free 3) (se_var (i := 0) rfl (.inl rfl))) se_int rfl) (sss_one (ss_ret (cl := true) (se_make (k := 6) (ci_Book S) c.tk (c.room.mono (by decide)) rfl (sa_cons (se_ix (se_var (i := 0) rfl (.inl rfl)) se_int (fun _ _ => rfl)) (sa_cons (se_ix (se_var (i := 0) rfl (.inl rfl)) se_int (fun _ _ => rfl)) (sa_cons (se_ix (se_var (i := 0) rfl (.inl rfl)) se_int (fun _ _ => rfl)) sa_nil)))))) sss_nil) (sss_cons (ss_if (cl := true) (st_cmp (op_eqA c.units) o2_eq (x_len rfl (S.free 3) (se_var (i := 0) rfl (.inl rfl))) se_int rfl) (sss_one (ss_ret (cl := true) (se_make (k := 6) (ci_Book S) c.tk (c.room.mono (by decide)) rfl (sa_cons (se_ix (se_var (i := 0) rfl (.inl rfl)) se_int (fun _ _ => rfl)) (sa_cons (se_ix (se_var (i := 0) rfl (.inl rfl)) se_int (fun _ _ => rfl)) (sa_cons (se_ix (se_var (i := 0) rfl (.inl rfl)) se_int (fun _ _ => rfl)) (sa_cons (se_ix (se_var (i := 0) rfl (.inl rfl)) se_int (fun _ _ => rfl)) (sa_cons (se_ix (se_var (i := 0) rfl (.inl rfl)) se_int (fun _ _ => rfl)) (sa_cons (se_ix (se_var (i := 0) rfl (.inl rfl)) se_int (fun _ _ => rfl)) sa_nil))))))))) sss_nil) (sss_cons (ss_if (cl := true) (st_cmp (op_eqA c.units) o2_eq (x_len rfl (S.free 3) (se_var (i := 0) rfl (.inl rfl))) se_int rfl) (sss_cons (ss_set (i := 1) c.nd rfl (.inl rfl) (se_var (i := 0) rfl (.inl rfl))) (sss_one (ss_ret (cl := true) (se_make (k := 6) (ci_Book S) c.tk (c.room.mono (by decide)) rfl (sa_cons (se_ix (se_var (i := 1) rfl (.inl rfl)) se_int (fun _ _ => rfl)) (sa_cons (se_ix (se_var (i := 1) rfl (.inl rfl)) se_int (fun _ _ => rfl)) (sa_cons (se_ix (se_var (i := 1) rfl (.inl rfl)) se_int (fun _ _ => rfl)) (sa_cons (se_ix (se_var (i := 1) rfl (.inl rfl)) se_int (fun _ _ => rfl)) (sa_cons (se_ix (se_var (i := 1) rfl (.inl rfl)) se_int (fun _ _ => rfl)) (sa_cons (se_ix (se_var (i := 1) rfl (.inl rfl)) se_int (fun _ _ => rfl)) (sa_cons (se_ix (se_var (i := 1) rfl (.inl rfl)) se_int (fun _ _ => rfl)) (sa_cons (se_ix (se_var (i := 1) rfl (.inl rfl)) se_int (fun _ _ => rfl)) (sa_cons (se_ix (se_var (i := 1) rfl (.inl rfl)) se_int (fun _ _ => rfl)) (sa_cons (se_ix (se_var (i := 1) rfl (.inl rfl)) se_int (fun _ _ => rfl)) sa_nil)))))))))))))) sss_nil) (sss_one (ss_ret (cl := true) (se_sm (S.smeth 33) ((ok_Book_of S).mono (by decide)) (S.glo 34) rfl c.tk c.room (sa_cons (se_var (i := 0) rfl (.inl rfl)) sa_nil))))))))))
/-! ### _law_level -/
theorem sc__law_level : FnScope ["entries", "when", "found", "row"] ["entries", "when"] (defScope st__law_level) := sc_of (by decide +kernel)
def m__law_level : MS :=
  (mSeq (mSet 2 (eC (.int 0))) (mSeq (mFor (itSeq (eVar 0)) (Tg.nm 3) (mIf (eAnd (eBin fNe (eBin fIx (eVar 3) (eC (.int 0))) (eC (.str "struck"))) (eBin fLe (eBin fIx (eVar 3) (eC (.int 1))) (eVar 1))) (mSet 2 (eBin fAdd (eVar 2) (eBin fIx (eLst (aCons (eBin fSub (eC (.int 0)) (eBin fIx (eVar 3) (eC (.int 2)))) (aCons (eBin fIx (eVar 3) (eC (.int 2))) aNil))) (eUn fInt (eBin fEq (eBin fIx (eVar 3) (eC (.int 0))) (eC (.str "bill"))))))) mNext)) (mRet (eVar 2))))
def s__law_level : FS := fnOfN 2 4 m__law_level
theorem ok__law_level (S : SX fa fn cd.lams K mg base) : FnS P w K mg base cn "_law_level" 1 s__law_level := by
  obtain ⟨fd, F⟩ := S.def_ 19
  exact fnS_of F (S.glo 36) sc__law_level rfl (fun _ _ _ _ _ _ us hl => match us, hl with | [_, _], _ => rfl) (fun cdv A outer s H E W c =>
  (sss_cons (ss_set (i := 2) c.nd rfl (.inl rfl) se_int) (sss_cons (ss_for (t := (Tg.nm 3)) c (si_seq (se_var (i := 0) rfl (.inl rfl))) (pg_name (i := 3) c.nd rfl (.inl rfl)) (sss_one (ss_if (cl := true) (sw_pt (sw_and (st_cmp (op_neA c.units) o2_ne (se_ix (se_var (i := 3) rfl (.inl rfl)) se_int (fun _ _ => rfl)) se_str rfl) (sw_and1 (st_cmp op_le o2_cmp (se_ix (se_var (i := 3) rfl (.inl rfl)) se_int (fun _ _ => rfl)) (se_var (i := 1) rfl (.inl rfl)) rfl)))) (sss_one (ss_set (i := 2) c.nd rfl (.inl rfl) (se_bin op_addA o2_add (se_var (i := 2) rfl (.inl rfl)) (se_ix (se_lst (sa_cons (se_bin op_sub o2_sub se_int (se_ix (se_var (i := 3) rfl (.inl rfl)) se_int (fun _ _ => rfl))) (sa_cons (se_ix (se_var (i := 3) rfl (.inl rfl)) se_int (fun _ _ => rfl)) sa_nil))) (x_int rfl (S.free 0) (se_cmp (op_eqA c.units) o2_eq (se_ix (se_var (i := 3) rfl (.inl rfl)) se_int (fun _ _ => rfl)) se_str rfl)) (fun _ _ => rfl))))) sss_nil))) (sss_one (ss_ret (cl := true) (se_var (i := 2) rfl (.inl rfl)))))))
/-! ### _law_like -/
theorem sc__law_like : FnScope ["thing", "due", "k"] ["thing", "due"] (defScope st__law_like) := sc_of (by decide +kernel)
def m__law_like (sem : FS) : MS :=
  (mSeq (mIf (eOr (eUn (fIsB g "list") (eVar 1)) (eUn (fIsB g "tuple") (eVar 1))) (mSeq (mIf (eOr (eBin fNe (eUn (fIsB g "list") (eVar 0)) (eUn (fIsB g "list") (eVar 1))) (eBin fNe (eUn (fIsB g "tuple") (eVar 0)) (eUn (fIsB g "tuple") (eVar 1)))) (mRet (eC (.bl false))) mNext) (mSeq (mIf (eBin fNe (eUn fLen (eVar 0)) (eUn fLen (eVar 1))) (mRet (eC (.bl false))) mNext) (mSeq (mFor (itR1 (eUn fLen (eVar 1))) (Tg.nm 2) (mIf (eNot (eCall sem (aCons (eBin fIx (eVar 0) (eVar 2)) (aCons (eBin fIx (eVar 1) (eVar 2)) aNil)))) (mRet (eC (.bl false))) mNext)) (mRet (eC (.bl true)))))) mNext) (mSeq (mIf (eOr (eBin fNe (eUn (fIsB g "bool") (eVar 0)) (eUn (fIsB g "bool") (eVar 1))) (eBin fNe (eUn (fIsB g "int") (eVar 0)) (eUn (fIsB g "int") (eVar 1)))) (mRet (eC (.bl false))) mNext) (mSeq (mIf (eOr (eBin fNe (eUn (fIsB g "str") (eVar 0)) (eUn (fIsB g "str") (eVar 1))) (eBin fNe (eBin fIsN (eVar 0) (eC .non)) (eBin fIsN (eVar 1) (eC .non)))) (mRet (eC (.bl false))) mNext) (mRet (eBin fEq (eVar 0) (eVar 1))))))
def s__law_like_ : Nat → FS
  | 0 => fun _ _ => .bad
  | n + 1 => fnOfN 2 3 (m__law_like (s__law_like_ n))
theorem okr__law_like (S : SX fa fn cd.lams K mg base) : ∀ j, FnS P w K mg base cn "_law_like" (0 + j) (s__law_like_ j)
  | 0 => ok_bad (S.glo 38) (S.def_ 20)
  | j + 1 => by
    obtain ⟨fd, F⟩ := S.def_ 20
    have R := okr__law_like S j
    exact fnS_of F (S.glo 38) sc__law_like rfl (fun _ _ _ _ _ _ us hl => match us, hl with | [_, _], _ => rfl) (fun cdv A outer s H E W c =>
    (sss_cons (ss_if (cl := true) (sw_pt (sw_or (st_val (se_isB (n := "list") (S.kf 17) rfl (S.free 18) (se_var (i := 1) rfl (.inl rfl)) rfl (S.free 2) blt_list (by decide))) (sw_or1 (st_val (se_isB (n := "tuple") (S.kf 17) rfl (S.free 18) (se_var (i := 1) rfl (.inl rfl)) rfl (S.free 6) blt_tuple (by decide)))))) (sss_cons (ss_if (cl := true) (sw_pt (sw_or (st_cmp (op_neA c.units) o2_ne (se_isB (n := "list") (S.kf 17) rfl (S.free 18) (se_var (i := 0) rfl (.inl rfl)) rfl (S.free 2) blt_list (by decide)) (se_isB (n := "list") (S.kf 17) rfl (S.free 18) (se_var (i := 1) rfl (.inl rfl)) rfl (S.free 2) blt_list (by decide)) rfl) (sw_or1 (st_cmp (op_neA c.units) o2_ne (se_isB (n := "tuple") (S.kf 17) rfl (S.free 18) (se_var (i := 0) rfl (.inl rfl)) rfl (S.free 6) blt_tuple (by decide)) (se_isB (n := "tuple") (S.kf 17) rfl (S.free 18) (se_var (i := 1) rfl (.inl rfl)) rfl (S.free 6) blt_tuple (by decide)) rfl)))) (sss_one (ss_ret (cl := true) se_bl)) sss_nil) (sss_cons (ss_if (cl := true) (st_cmp (op_neA c.units) o2_ne (x_len rfl (S.free 3) (se_var (i := 0) rfl (.inl rfl))) (x_len rfl (S.free 3) (se_var (i := 1) rfl (.inl rfl))) rfl) (sss_one (ss_ret (cl := true) se_bl)) sss_nil) (sss_cons (ss_for (t := (Tg.nm 2)) c (si_r1 rfl (S.free 5) (x_len rfl (S.free 3) (se_var (i := 1) rfl (.inl rfl)))) (pg_name (i := 2) c.nd rfl (.inl rfl)) (sss_one (ss_if (cl := true) (st_not (st_val (se_call (R.mono (Nat.le_refl _)) c.tk c.room rfl (sa_cons (se_ix (se_var (i := 0) rfl (.inl rfl)) (se_var (i := 2) rfl (.inl rfl)) (fun _ _ => rfl)) (sa_cons (se_ix (se_var (i := 1) rfl (.inl rfl)) (se_var (i := 2) rfl (.inl rfl)) (fun _ _ => rfl)) sa_nil))))) (sss_one (ss_ret (cl := true) se_bl)) sss_nil))) (sss_one (ss_ret (cl := true) se_bl))))) sss_nil) (sss_cons (ss_if (cl := true) (sw_pt (sw_or (st_cmp (op_neA c.units) o2_ne (se_isB (n := "bool") (S.kf 17) rfl (S.free 18) (se_var (i := 0) rfl (.inl rfl)) rfl (S.free 21) blt_bool (by decide)) (se_isB (n := "bool") (S.kf 17) rfl (S.free 18) (se_var (i := 1) rfl (.inl rfl)) rfl (S.free 21) blt_bool (by decide)) rfl) (sw_or1 (st_cmp (op_neA c.units) o2_ne (se_isB (n := "int") (S.kf 17) rfl (S.free 18) (se_var (i := 0) rfl (.inl rfl)) rfl (S.free 0) blt_int (by decide)) (se_isB (n := "int") (S.kf 17) rfl (S.free 18) (se_var (i := 1) rfl (.inl rfl)) rfl (S.free 0) blt_int (by decide)) rfl)))) (sss_one (ss_ret (cl := true) se_bl)) sss_nil) (sss_cons (ss_if (cl := true) (sw_pt (sw_or (st_cmp (op_neA c.units) o2_ne (se_isB (n := "str") (S.kf 17) rfl (S.free 18) (se_var (i := 0) rfl (.inl rfl)) rfl (S.free 19) blt_str (by decide)) (se_isB (n := "str") (S.kf 17) rfl (S.free 18) (se_var (i := 1) rfl (.inl rfl)) rfl (S.free 19) blt_str (by decide)) rfl) (sw_or1 (st_cmp (op_neA c.units) o2_ne (se_cmp op_isN o2_isN (se_var (i := 0) rfl (.inl rfl)) se_non rfl) (se_cmp op_isN o2_isN (se_var (i := 1) rfl (.inl rfl)) se_non rfl) rfl)))) (sss_one (ss_ret (cl := true) se_bl)) sss_nil) (sss_one (ss_ret (cl := true) (se_cmp (op_eqA c.units) o2_eq (se_var (i := 0) rfl (.inl rfl)) (se_var (i := 1) rfl (.inl rfl)) rfl)))))))
abbrev s__law_like : FS := s__law_like_ 8
theorem ok__law_like (S : SX fa fn cd.lams K mg base) : FnS P w K mg base cn "_law_like" 8 s__law_like := okr__law_like S 8
/-! ### need_day -/
theorem sc_need_day : FnScope ["value"] ["value"] (defScope st_need_day) := sc_of (by decide +kernel)
def m_need_day : MS :=
  (mIf (eNot (eCall s_is_integer (aCons (eVar 0) aNil))) (mRaise 3) mNext)
def s_need_day : FS := fnOfN 1 1 m_need_day
theorem ok_need_day (S : SX fa fn cd.lams K mg base) : FnS P w K mg base cn "need_day" 2 s_need_day := by
  obtain ⟨fd, F⟩ := S.def_ 21
  exact fnS_of F (S.glo 40) sc_need_day rfl (fun _ _ _ _ _ _ us hl => match us, hl with | [_], _ => rfl) (fun cdv A outer s H E W c =>
  (sss_one (ss_if (cl := true) (st_not (st_val (se_call ((ok_is_integer S).mono (by decide)) c.tk c.room rfl (sa_cons (se_var (i := 0) rfl (.inl rfl)) sa_nil)))) (sss_one (ss_raise c (S.exc 39) rfl rfl)) sss_nil)))
/-! ### signed -/
theorem sc_signed : FnScope ["entry"] ["entry"] (defScope st_signed) := sc_of (by decide +kernel)
def m_signed : MS :=
  (mSeq (mIf (eBin fEq (eBin fIx (eVar 0) (eC (.int 0))) (eC (.str "struck"))) (mRet (eC (.int 0))) mNext) (mRet (eIf (eBin fEq (eBin fIx (eVar 0) (eC (.int 0))) (eC (.str "bill"))) (eBin fIx (eVar 0) (eC (.int 2))) (eBin fSub (eC (.int 0)) (eBin fIx (eVar 0) (eC (.int 2)))))))
def s_signed : FS := fnOfN 1 1 m_signed
theorem ok_signed (S : SX fa fn cd.lams K mg base) : FnS P w K mg base cn "signed" 1 s_signed := by
  obtain ⟨fd, F⟩ := S.def_ 22
  exact fnS_of F (S.glo 41) sc_signed rfl (fun _ _ _ _ _ _ us hl => match us, hl with | [_], _ => rfl) (fun cdv A outer s H E W c =>
  (sss_cons (ss_if (cl := true) (st_cmp (op_eqA c.units) o2_eq (se_ix (se_var (i := 0) rfl (.inl rfl)) se_int (fun _ _ => rfl)) se_str rfl) (sss_one (ss_ret (cl := true) se_int)) sss_nil) (sss_one (ss_ret (cl := true) (se_if (st_cmp (op_eqA c.units) o2_eq (se_ix (se_var (i := 0) rfl (.inl rfl)) se_int (fun _ _ => rfl)) se_str rfl) (se_ix (se_var (i := 0) rfl (.inl rfl)) se_int (fun _ _ => rfl)) (se_bin op_sub o2_sub se_int (se_ix (se_var (i := 0) rfl (.inl rfl)) se_int (fun _ _ => rfl))))))))
/-! ### balance_on -/
theorem sc_balance_on : FnScope ["account", "day", "entry"] ["account", "day"] (defScope st_balance_on) := sc_of (by decide +kernel)
def m_balance_on : MS :=
  (mRet (eUn fSum (eNew (lcM false (itSeq (eVar 0)) (Tg.nm 2) (eAnd (eBin fNe (eBin fIx (eVar 2) (eC (.int 0))) (eC (.str "struck"))) (eBin fLe (eBin fIx (eVar 2) (eC (.int 1))) (eVar 1))) (eCall s_signed (aCons (eVar 2) aNil)) [2]))))
def s_balance_on : FS := fnOfN 2 3 m_balance_on
theorem ok_balance_on (S : SX fa fn cd.lams K mg base) : FnS P w K mg base cn "balance_on" 2 s_balance_on := by
  obtain ⟨fd, F⟩ := S.def_ 23
  exact fnS_of F (S.glo 43) sc_balance_on rfl (fun _ _ _ _ _ _ us hl => match us, hl with | [_, _], _ => rfl) (fun cdv A outer s H E W c =>
  (sss_one (ss_ret (cl := true) (x_sum c.calm rfl (S.free 42) (se_new (sf_lc (own := ([("entry", 2)] : List (Str × Nat))) (t := (Tg.nm 2)) (ck := false) c.calm c.nd (si_seq (se_var (i := 0) rfl (.inl rfl))) (blk_of (by kernel_rfl)) (fun _ _ _ _ _ => (pg_name (i := 2) c.nd rfl (.inl rfl))) (fun _ _ _ _ _ => (sts_one (sw_pt (sw_and (st_cmp (op_neA c.units) o2_ne (se_ix (se_var (i := 2) rfl (.inl rfl)) se_int (fun _ _ => rfl)) se_str rfl) (sw_and1 (st_cmp op_le o2_cmp (se_ix (se_var (i := 2) rfl (.inl rfl)) se_int (fun _ _ => rfl)) (se_var (i := 1) rfl (.inr (.inl rfl))) rfl)))))) (fun _ _ _ _ _ => (se_call ((ok_signed S).mono (by decide)) tkF c.room rfl (sa_cons (se_var (i := 2) rfl (.inl rfl)) sa_nil)))))))))
/-! ### owed_by -/
theorem sc_owed_by : FnScope ["account", "day"] ["account", "day"] (defScope st_owed_by) := sc_of (by decide +kernel)
def m_owed_by : MS :=
  (mRet (eBin fMax2 (eC (.int 0)) (eCall s_balance_on (aCons (eVar 0) (aCons (eVar 1) aNil)))))
def s_owed_by : FS := fnOfN 2 2 m_owed_by
theorem ok_owed_by (S : SX fa fn cd.lams K mg base) : FnS P w K mg base cn "owed_by" 3 s_owed_by := by
  obtain ⟨fd, F⟩ := S.def_ 24
  exact fnS_of F (S.glo 44) sc_owed_by rfl (fun _ _ _ _ _ _ us hl => match us, hl with | [_, _], _ => rfl) (fun cdv A outer s H E W c =>
  (sss_one (ss_ret (cl := true) (x_max c.calm rfl (S.free 37) se_int (se_call ((ok_balance_on S).mono (by decide)) c.tk c.room rfl (sa_cons (se_var (i := 0) rfl (.inl rfl)) (sa_cons (se_var (i := 1) rfl (.inl rfl)) sa_nil)))))))
/-! ### Book.__call__ -/
theorem sc_Book___call__ : FnScope ["self", "day"] ["self", "day"] (defScope st_Book___call__) := sc_of (by decide +kernel)
def m_Book___call__ : MS :=
  (mSeq (mDrop (eCall s_need_day (aCons (eVar 1) aNil))) (mRet (eCall s_owed_by (aCons (eUn (fFld Ft_entries "entries") (eVar 0)) (aCons (eVar 1) aNil)))))
def s_Book___call__ : FS := fnOfN 2 2 m_Book___call__
abbrev N_Book___call__ : List Str := ["self", "day"]
theorem okk_Book___call__ (S : SX fa fn cd.lams K mg base) : FnKK P w K mg base cn "__call__" "Book.__call__" (defArgs st_Book___call__) (defBody st_Book___call__) (defScope st_Book___call__) (FAt.ad K (.meth "Book" "__call__")) ["self", "day"] 4 2 (fnOf N_Book___call__.length m_Book___call__) := by
  obtain ⟨fd, F⟩ := S.def_ 25
  exact ⟨fd, F, fnK_of F sc_Book___call__ rfl (fun cdv A outer s H E W c =>
  (sss_cons (ss_expr (cl := true) (se_call ((ok_need_day S).mono (by decide)) c.tk c.room rfl (sa_cons (se_var (i := 1) rfl (.inl rfl)) sa_nil))) (sss_one (ss_ret (cl := true) (se_call ((ok_owed_by S).mono (by decide)) c.tk c.room rfl (sa_cons (se_fld (fo_entries S) (se_var (i := 0) rfl (.inl rfl))) (sa_cons (se_var (i := 1) rfl (.inl rfl)) sa_nil)))))))⟩
theorem ok_Book___call__ (S : SX fa fn cd.lams K mg base) : FnT P w K mg base cn (FAt.ad K (.meth "Book" "__call__")) 4 s_Book___call__ := kk_T (N := N_Book___call__) (okk_Book___call__ S) rfl (fun _ _ _ _ _ _ us hl => match us, hl with | [_, _], _ => rfl)
def Mt_call : Nat → Option FS := tab [(6, s_Book___call__)]
theorem mo_call (S : SX fa fn cd.lams K mg base) : CallOk P w K mg base cn 4 Mt_call :=
  callo_cons (S.meth 45) (fnIn_of (S.def_ 25)) ((ok_Book___call__ S).mono (by decide)) (callo_nil)
def Mk_0 : Nat → Option FS := tab [(6, (permFS [0, 1] s_Book___call__))]
theorem mok_0 (S : SX fa fn cd.lams K mg base) : CallKW P w K mg base cn 4 ["day"] Mk_0 :=
  ckw_cons (S.meth 45) (fnIn_of (S.def_ 25)) ((kk_KW (N := N_Book___call__) (okk_Book___call__ S) 1 ["day"] [0, 1] (by decide) rfl (fun _ _ _ _ _ _ us ws h1 h2 => match us, h1, ws, h2 with | [_], _, [_], _ => rfl)).mono (by decide)) (ckw_nil)
/-! ### up_to -/
theorem sc_up_to : FnScope ["account", "day", "entry"] ["account", "day"] (defScope st_up_to) := sc_of (by decide +kernel)
def m_up_to : MS :=
  (mRet (eUn fTupOf (eNew (lcM false (itSeq (eVar 0)) (Tg.nm 2) (eC (.bl true)) (eIf (eAnd (eBin fNe (eBin fIx (eVar 2) (eC (.int 0))) (eC (.str "struck"))) (eBin fLe (eBin fIx (eVar 2) (eC (.int 1))) (eVar 1))) (eVar 2) (eTup (aCons (eC (.str "struck")) aNil))) [2]))))
def s_up_to : FS := fnOfN 2 3 m_up_to
theorem ok_up_to (S : SX fa fn cd.lams K mg base) : FnS P w K mg base cn "up_to" 1 s_up_to := by
  obtain ⟨fd, F⟩ := S.def_ 26
  exact fnS_of F (S.glo 46) sc_up_to rfl (fun _ _ _ _ _ _ us hl => match us, hl with | [_, _], _ => rfl) (fun cdv A outer s H E W c =>
  (sss_one (ss_ret (cl := true) (x_tuple rfl (S.free 6) (se_new (sf_lc (own := ([("entry", 2)] : List (Str × Nat))) (t := (Tg.nm 2)) (ck := false) c.calm c.nd (si_seq (se_var (i := 0) rfl (.inl rfl))) (blk_of (by kernel_rfl)) (fun _ _ _ _ _ => (pg_name (i := 2) c.nd rfl (.inl rfl))) (fun _ _ _ _ _ => sts_nil) (fun _ _ _ _ _ => (se_if (sw_pt (sw_and (st_cmp (op_neA c.units) o2_ne (se_ix (se_var (i := 2) rfl (.inl rfl)) se_int (fun _ _ => rfl)) se_str rfl) (sw_and1 (st_cmp op_le o2_cmp (se_ix (se_var (i := 2) rfl (.inl rfl)) se_int (fun _ _ => rfl)) (se_var (i := 1) rfl (.inr (.inl rfl))) rfl)))) (se_var (i := 2) rfl (.inl rfl)) (se_tup (sa_cons se_str sa_nil))))))))))
/-! ### Book.as_of -/
theorem sc_Book_as_of : FnScope ["self", "day", "rows"] ["self", "day"] (defScope st_Book_as_of) := sc_of (by decide +kernel)
def m_Book_as_of : MS :=
  (mSeq (mDrop (eCall s_need_day (aCons (eVar 1) aNil))) (mSeq (mSet 2 (eCall s_up_to (aCons (eUn (fFld Ft_entries "entries") (eVar 0)) (aCons (eVar 1) aNil)))) (mRet (eCall (fMake 6 s_Book___init__) (aStar (eVar 2))))))
def s_Book_as_of : FS := fnOfN 2 3 m_Book_as_of
abbrev N_Book_as_of : List Str := ["self", "day", "rows"]
theorem okk_Book_as_of (S : SX fa fn cd.lams K mg base) : FnKK P w K mg base cn "as_of" "Book.as_of" (defArgs st_Book_as_of) (defBody st_Book_as_of) (defScope st_Book_as_of) (FAt.ad K (.meth "Book" "as_of")) ["self", "day"] 8 2 (fnOf N_Book_as_of.length m_Book_as_of) := by
  obtain ⟨fd, F⟩ := S.def_ 27
  exact ⟨fd, F, fnK_of F sc_Book_as_of rfl (fun cdv A outer s H E W c =>
  (sss_cons (ss_expr (cl := true) (se_call ((ok_need_day S).mono (by decide)) c.tk c.room rfl (sa_cons (se_var (i := 1) rfl (.inl rfl)) sa_nil))) (sss_cons (ss_set (i := 2) c.nd rfl (.inl rfl) (se_call ((ok_up_to S).mono (by decide)) c.tk c.room rfl (sa_cons (se_fld (fo_entries S) (se_var (i := 0) rfl (.inl rfl))) (sa_cons (se_var (i := 1) rfl (.inl rfl)) sa_nil)))) (sss_one (ss_ret (cl := true) (se_makeS (k := 6) (ci_Book S) c.tk (c.room.mono (by decide)) rfl (se_var (i := 2) rfl (.inl rfl))))))))⟩
theorem ok_Book_as_of (S : SX fa fn cd.lams K mg base) : FnT P w K mg base cn (FAt.ad K (.meth "Book" "as_of")) 8 s_Book_as_of := kk_T (N := N_Book_as_of) (okk_Book_as_of S) rfl (fun _ _ _ _ _ _ us hl => match us, hl with | [_, _], _ => rfl)
def Mt_as_of : Nat → Option FS := tab [(6, s_Book_as_of)]
theorem mo_as_of (S : SX fa fn cd.lams K mg base) : MethOk P w K mg base cn "as_of" 8 Mt_as_of :=
  meth_cons (S.cls 30) (S.meth 47) ((ok_Book_as_of S).mono (by decide)) (meth_nil)
/-! ### Book.account -/
theorem sc_Book_account : FnScope ["self"] ["self"] (defScope st_Book_account) := sc_of (by decide +kernel)
def m_Book_account : MS :=
  (mRet (eUn (fFld Ft_entries "entries") (eVar 0)))
def s_Book_account : FS := fnOfN 1 1 m_Book_account
theorem ok_Book_account (S : SX fa fn cd.lams K mg base) : FnT P w K mg base cn (FAt.ad K (.prop "Book" "account")) 1 s_Book_account := by
  obtain ⟨fd, F⟩ := S.def_ 28
  exact fnT_of F sc_Book_account rfl (fun _ _ _ _ _ _ us hl => match us, hl with | [_], _ => rfl) (fun cdv A outer s H E W c =>
  (sss_one (ss_ret (cl := true) (se_fld (fo_entries S) (se_var (i := 0) rfl (.inl rfl))))))
def Pt_account : Nat → Option FS := tab [(6, s_Book_account)]
theorem po_account (S : SX fa fn cd.lams K mg base) : PropOk P w K mg base cn "account" 1 Pt_account :=
  prop_cons (S.cls 30) (S.prop 48) ((ok_Book_account S).mono (by decide)) (prop_nil)
/-! ### _law_is_volume -/
theorem sc__law_is_volume : FnScope ["thing", "entries"] ["thing", "entries"] (defScope st__law_is_volume) := sc_of (by decide +kernel)
def m__law_is_volume : MS :=
  (mRet (eAnd (eUn (fIsC g 6) (eVar 0)) (eCall s__law_like (aCons (eUn (fProp Pt_account) (eVar 0)) (aCons (eVar 1) aNil)))))
def s__law_is_volume : FS := fnOfN 2 2 m__law_is_volume
theorem ok__law_is_volume (S : SX fa fn cd.lams K mg base) : FnS P w K mg base cn "_law_is_volume" 9 s__law_is_volume := by
  obtain ⟨fd, F⟩ := S.def_ 29
  exact fnS_of F (S.glo 49) sc__law_is_volume rfl (fun _ _ _ _ _ _ us hl => match us, hl with | [_, _], _ => rfl) (fun cdv A outer s H E W c =>
  (sss_one (ss_ret (cl := true) (se_and (se_isC (k := 6) (S.kf 17) rfl (S.free 18) (se_var (i := 0) rfl (.inl rfl)) rfl (S.glo 34)) (se_one (se_call ((ok__law_like S).mono (by decide)) c.tk c.room rfl (sa_cons (se_prop (po_account S) (c.room.mono (by decide)) (se_var (i := 0) rfl (.inl rfl))) (sa_cons (se_var (i := 1) rfl (.inl rfl)) sa_nil))))))))
def Mk_1 : Nat → Option FS := tab [(6, (permFS [0, 1] s_Book_as_of))]
theorem mok_1 (S : SX fa fn cd.lams K mg base) : MethKW P w K mg base cn "as_of" 8 0 ["day"] Mk_1 :=
  mkw_cons (S.cls 30) (S.meth 47) ((kk_KW (N := N_Book_as_of) (okk_Book_as_of S) 1 ["day"] [0, 1] (by decide) rfl (fun _ _ _ _ _ _ us ws h1 h2 => match us, h1, ws, h2 with | [_], _, [_], _ => rfl)).mono (by decide)) (mkw_nil)
/-! ### owed -/
theorem sc_owed : FnScope ["account", "day"] ["account", "day"] (defScope st_owed) := sc_of (by decide +kernel)
def m_owed : MS :=
  (mSeq (mDrop (eCall s_need_account (aCons (eVar 0) aNil))) (mSeq (mDrop (eCall s_need_day (aCons (eVar 1) aNil))) (mRet (eCall s_owed_by (aCons (eVar 0) (aCons (eVar 1) aNil))))))
def s_owed : FS := fnOfN 2 2 m_owed
theorem ok_owed (S : SX fa fn cd.lams K mg base) : FnS P w K mg base cn "owed" 6 s_owed := by
  obtain ⟨fd, F⟩ := S.def_ 30
  exact fnS_of F (S.glo 50) sc_owed rfl (fun _ _ _ _ _ _ us hl => match us, hl with | [_, _], _ => rfl) (fun cdv A outer s H E W c =>
  (sss_cons (ss_expr (cl := true) (se_call ((ok_need_account S).mono (by decide)) c.tk c.room rfl (sa_cons (se_var (i := 0) rfl (.inl rfl)) sa_nil))) (sss_cons (ss_expr (cl := true) (se_call ((ok_need_day S).mono (by decide)) c.tk c.room rfl (sa_cons (se_var (i := 1) rfl (.inl rfl)) sa_nil))) (sss_one (ss_ret (cl := true) (se_call ((ok_owed_by S).mono (by decide)) c.tk c.room rfl (sa_cons (se_var (i := 0) rfl (.inl rfl)) (sa_cons (se_var (i := 1) rfl (.inl rfl)) sa_nil))))))))
/-! ### _law_on_days -/
theorem sc__law_on_days : FnScope ["volume", "entries", "spots", "when", "due", "rest", "part", "row"] ["volume", "entries", "spots"] (defScope st__law_on_days) := sc_of (by decide +kernel)
def m__law_on_days : MS :=
  (mSeq (mFor (itSeq (eVar 2)) (Tg.nm 3) (mSeq (mSet 4 (eBin fMax2 (eC (.int 0)) (eCall s__law_level (aCons (eVar 1) (aCons (eVar 3) aNil))))) (mSeq (mIf (eOr (eNot (eCall s__law_like (aCons (eInst Mt_call (eVar 0) (aCons (eVar 3) aNil)) (aCons (eVar 4) aNil)))) (eNot (eCall s__law_like (aCons (eInst (fun cc => (Mk_0 cc).map fun sem ds st => if ds.length = (["day"] : List Str).length + 1 then sem ds st else .bad) (eVar 0) (aCons (eVar 3) aNil)) (aCons (eVar 4) aNil))))) (mRet (eC (.bl false))) mNext) (mSeq (mSet 5 (eUn fTupOf (eNew (lcM false (itSeq (eVar 1)) (Tg.nm 7) (eC (.bl true)) (eIf (eOr (eBin fEq (eBin fIx (eVar 7) (eC (.int 0))) (eC (.str "struck"))) (eBin fGt (eBin fIx (eVar 7) (eC (.int 1))) (eVar 3))) (eTup (aCons (eC (.str "struck")) aNil)) (eVar 7)) [7])))) (mSeq (mSet 6 (eMeth "as_of" Mt_as_of (eVar 0) (aCons (eVar 3) aNil))) (mSeq (mIf (eOr (eNot (eCall s__law_is_volume (aCons (eVar 6) (aCons (eVar 5) aNil)))) (eNot (eCall s__law_is_volume (aCons (eMethK "as_of" 0 (["day"] : List Str).length Mk_1 (eVar 0) aNil (aCons (eVar 3) aNil)) (aCons (eVar 5) aNil))))) (mRet (eC (.bl false))) mNext) (mIf (eNot (eCall s__law_like (aCons (eLst (aCons (eInst Mt_call (eVar 6) (aCons (eVar 3) aNil)) (aCons (eCall s_owed (aCons (eVar 1) (aCons (eVar 3) aNil))) aNil))) (aCons (eLst (aCons (eVar 4) (aCons (eVar 4) aNil))) aNil)))) (mRet (eC (.bl false))) mNext))))))) (mRet (eC (.bl true))))
def s__law_on_days : FS := fnOfN 3 8 m__law_on_days
theorem ok__law_on_days (S : SX fa fn cd.lams K mg base) : FnS P w K mg base cn "_law_on_days" 10 s__law_on_days := by
  obtain ⟨fd, F⟩ := S.def_ 31
  exact fnS_of F (S.glo 51) sc__law_on_days rfl (fun _ _ _ _ _ _ us hl => match us, hl with | [_, _, _], _ => rfl) (fun cdv A outer s H E W c =>
  (sss_cons (ss_for (t := (Tg.nm 3)) c (si_seq (se_var (i := 2) rfl (.inl rfl))) (pg_name (i := 3) c.nd rfl (.inr rfl)) (sss_cons (ss_set (i := 4) c.nd rfl (.inl rfl) (x_max c.calm rfl (S.free 37) se_int (se_call ((ok__law_level S).mono (by decide)) c.tk c.room rfl (sa_cons (se_var (i := 1) rfl (.inl rfl)) (sa_cons (se_var (i := 3) rfl (.inr (.inl rfl))) sa_nil))))) (sss_cons (ss_if (cl := true) (sw_pt (sw_or (st_not (st_val (se_call ((ok__law_like S).mono (by decide)) c.tk c.room rfl (sa_cons (se_inst (k := 4) (mo_call S) c.tk (c.room.mono (by decide)) (se_var (i := 0) rfl (.inl rfl)) (sa_cons (se_var (i := 3) rfl (.inr (.inl rfl))) sa_nil)) (sa_cons (se_var (i := 4) rfl (.inl rfl)) sa_nil))))) (sw_or1 (st_not (st_val (se_call ((ok__law_like S).mono (by decide)) c.tk c.room rfl (sa_cons (se_instK (ks := ["day"]) (k := 4) (mok_0 S) c.tk (c.room.mono (by decide)) (se_var (i := 0) rfl (.inl rfl)) (sk_cons (se_var (i := 3) rfl (.inr (.inl rfl))) sk_nil)) (sa_cons (se_var (i := 4) rfl (.inl rfl)) sa_nil)))))))) (sss_one (ss_ret (cl := true) se_bl)) sss_nil) (sss_cons (ss_set (i := 5) c.nd rfl (.inl rfl) (x_tuple rfl (S.free 6) (se_new (sf_lc (own := ([("row", 7)] : List (Str × Nat))) (t := (Tg.nm 7)) (ck := false) c.calm c.nd (si_seq (se_var (i := 1) rfl (.inl rfl))) (blk_of (by kernel_rfl)) (fun _ _ _ _ _ => (pg_name (i := 7) c.nd rfl (.inl rfl))) (fun _ _ _ _ _ => sts_nil) (fun _ _ _ _ _ => (se_if (sw_pt (sw_or (st_cmp (op_eqA c.units) o2_eq (se_ix (se_var (i := 7) rfl (.inl rfl)) se_int (fun _ _ => rfl)) se_str rfl) (sw_or1 (st_cmp op_gt o2_cmp (se_ix (se_var (i := 7) rfl (.inl rfl)) se_int (fun _ _ => rfl)) (se_var (i := 3) rfl (.inr (.inl rfl))) rfl)))) (se_tup (sa_cons se_str sa_nil)) (se_var (i := 7) rfl (.inl rfl)))))))) (sss_cons (ss_set (i := 6) c.nd rfl (.inl rfl) (se_meth (k := 8) (mo_as_of S) c.tk (c.room.mono (by decide)) (se_var (i := 0) rfl (.inl rfl)) (sa_cons (se_var (i := 3) rfl (.inr (.inl rfl))) sa_nil))) (sss_cons (ss_if (cl := true) (sw_pt (sw_or (st_not (st_val (se_call ((ok__law_is_volume S).mono (by decide)) c.tk c.room rfl (sa_cons (se_var (i := 6) rfl (.inl rfl)) (sa_cons (se_var (i := 5) rfl (.inl rfl)) sa_nil))))) (sw_or1 (st_not (st_val (se_call ((ok__law_is_volume S).mono (by decide)) c.tk c.room rfl (sa_cons (se_meth0K (ks := ["day"]) (k := 8) (mok_1 S) c.tk (c.room.mono (by decide)) (se_var (i := 0) rfl (.inl rfl)) (sk_cons (se_var (i := 3) rfl (.inr (.inl rfl))) sk_nil)) (sa_cons (se_var (i := 5) rfl (.inl rfl)) sa_nil)))))))) (sss_one (ss_ret (cl := true) se_bl)) sss_nil) (sss_one (ss_if (cl := true) (st_not (st_val (se_call ((ok__law_like S).mono (by decide)) c.tk c.room rfl (sa_cons (se_lst (sa_cons (se_inst (k := 4) (mo_call S) c.tk (c.room.mono (by decide)) (se_var (i := 6) rfl (.inl rfl)) (sa_cons (se_var (i := 3) rfl (.inr (.inl rfl))) sa_nil)) (sa_cons (se_call ((ok_owed S).mono (by decide)) c.tk c.room rfl (sa_cons (se_var (i := 1) rfl (.inl rfl)) (sa_cons (se_var (i := 3) rfl (.inr (.inl rfl))) sa_nil))) sa_nil))) (sa_cons (se_lst (sa_cons (se_var (i := 4) rfl (.inl rfl)) (sa_cons (se_var (i := 4) rfl (.inl rfl)) sa_nil))) sa_nil))))) (sss_one (ss_ret (cl := true) se_bl)) sss_nil)))))))) (sss_one (ss_ret (cl := true) se_bl))))
/-! ### need_book -/
theorem sc_need_book : FnScope ["value"] ["value"] (defScope st_need_book) := sc_of (by decide +kernel)
def m_need_book : MS :=
  (mIf (eNot (eUn (fIsC g 6) (eVar 0))) (mRaise 5) mNext)
def s_need_book : FS := fnOfN 1 1 m_need_book
theorem ok_need_book (S : SX fa fn cd.lams K mg base) : FnS P w K mg base cn "need_book" 1 s_need_book := by
  obtain ⟨fd, F⟩ := S.def_ 32
  exact fnS_of F (S.glo 53) sc_need_book rfl (fun _ _ _ _ _ _ us hl => match us, hl with | [_], _ => rfl) (fun cdv A outer s H E W c =>
  (sss_one (ss_if (cl := true) (st_not (st_val (se_isC (k := 6) (S.kf 17) rfl (S.free 18) (se_var (i := 0) rfl (.inl rfl)) rfl (S.glo 34)))) (sss_one (ss_raise c (S.exc 52) rfl rfl)) sss_nil)))
/-! ### days_in -/
theorem sc_days_in : FnScope ["account", "entry"] ["account"] (defScope st_days_in) := sc_of (by decide +kernel)
def m_days_in : MS :=
  (mRet (eUn fSortSet (eNew (lcM false (itSeq (eVar 0)) (Tg.nm 1) (eBin fNe (eBin fIx (eVar 1) (eC (.int 0))) (eC (.str "struck"))) (eBin fIx (eVar 1) (eC (.int 1))) [1]))))
def s_days_in : FS := fnOfN 1 2 m_days_in
theorem ok_days_in (S : SX fa fn cd.lams K mg base) : FnS P w K mg base cn "days_in" 1 s_days_in := by
  obtain ⟨fd, F⟩ := S.def_ 33
  exact fnS_of F (S.glo 54) sc_days_in rfl (fun _ _ _ _ _ _ us hl => match us, hl with | [_], _ => rfl) (fun cdv A outer s H E W c =>
  (sss_one (ss_ret (cl := true) (x_sortSet c.calm c.units rfl (S.free 14) rfl (S.free 15) (se_new (sf_lc (own := ([("entry", 1)] : List (Str × Nat))) (t := (Tg.nm 1)) (ck := false) c.calm c.nd (si_seq (se_var (i := 0) rfl (.inl rfl))) (blk_of (by kernel_rfl)) (fun _ _ _ _ _ => (pg_name (i := 1) c.nd rfl (.inl rfl))) (fun _ _ _ _ _ => (sts_one (st_cmp (op_neA c.units) o2_ne (se_ix (se_var (i := 1) rfl (.inl rfl)) se_int (fun _ _ => rfl)) se_str rfl))) (fun _ _ _ _ _ => (se_ix (se_var (i := 1) rfl (.inl rfl)) se_int (fun _ _ => rfl)))))))))
/-! ### first_more -/
theorem sc_first_more : FnScope ["account", "other_account", "day"] ["account", "other_account"] (defScope st_first_more) := sc_of (by decide +kernel)
def m_first_more : MS :=
  (mSeq (mFor (itSeq (eCall s_days_in (aCons (eBin fAdd (eVar 0) (eVar 1)) aNil))) (Tg.nm 2) (mIf (eBin fGt (eCall s_owed_by (aCons (eVar 0) (aCons (eVar 2) aNil))) (eCall s_owed_by (aCons (eVar 1) (aCons (eVar 2) aNil)))) (mRet (eVar 2)) mNext)) (mRet (eC .non)))
def s_first_more : FS := fnOfN 2 3 m_first_more
theorem ok_first_more (S : SX fa fn cd.lams K mg base) : FnS P w K mg base cn "first_more" 4 s_first_more := by
  obtain ⟨fd, F⟩ := S.def_ 34
  exact fnS_of F (S.glo 55) sc_first_more rfl (fun _ _ _ _ _ _ us hl => match us, hl with | [_, _], _ => rfl) (fun cdv A outer s H E W c =>
  (sss_cons (ss_for (t := (Tg.nm 2)) c (si_seq (se_call ((ok_days_in S).mono (by decide)) c.tk c.room rfl (sa_cons (se_bin op_addA o2_add (se_var (i := 0) rfl (.inl rfl)) (se_var (i := 1) rfl (.inl rfl))) sa_nil))) (pg_name (i := 2) c.nd rfl (.inl rfl)) (sss_one (ss_if (cl := true) (st_cmp op_gt o2_cmp (se_call ((ok_owed_by S).mono (by decide)) c.tk c.room rfl (sa_cons (se_var (i := 0) rfl (.inl rfl)) (sa_cons (se_var (i := 2) rfl (.inl rfl)) sa_nil))) (se_call ((ok_owed_by S).mono (by decide)) c.tk c.room rfl (sa_cons (se_var (i := 1) rfl (.inl rfl)) (sa_cons (se_var (i := 2) rfl (.inl rfl)) sa_nil))) rfl) (sss_one (ss_ret (cl := true) (se_var (i := 2) rfl (.inl rfl)))) sss_nil))) (sss_one (ss_ret (cl := true) se_non))))
/-! ### Book.never_more -/
theorem sc_Book_never_more : FnScope ["self", "b"] ["self", "b"] (defScope st_Book_never_more) := sc_of (by decide +kernel)
def m_Book_never_more : MS :=
  (mSeq (mDrop (eCall s_need_book (aCons (eVar 1) aNil))) (mRet (eBin fIsN (eCall s_first_more (aCons (eUn (fFld Ft_entries "entries") (eVar 0)) (aCons (eUn (fFld Ft_entries "entries") (eVar 1)) aNil))) (eC .non))))
def s_Book_never_more : FS := fnOfN 2 2 m_Book_never_more
theorem ok_Book_never_more (S : SX fa fn cd.lams K mg base) : FnT P w K mg base cn (FAt.ad K (.meth "Book" "never_more")) 5 s_Book_never_more := by
  obtain ⟨fd, F⟩ := S.def_ 35
  exact fnT_of F sc_Book_never_more rfl (fun _ _ _ _ _ _ us hl => match us, hl with | [_, _], _ => rfl) (fun cdv A outer s H E W c =>
  (sss_cons (ss_expr (cl := true) (se_call ((ok_need_book S).mono (by decide)) c.tk c.room rfl (sa_cons (se_var (i := 1) rfl (.inl rfl)) sa_nil))) (sss_one (ss_ret (cl := true) (se_cmp op_isN o2_isN (se_call ((ok_first_more S).mono (by decide)) c.tk c.room rfl (sa_cons (se_fld (fo_entries S) (se_var (i := 0) rfl (.inl rfl))) (sa_cons (se_fld (fo_entries S) (se_var (i := 1) rfl (.inl rfl))) sa_nil))) se_non rfl)))))
def Mt_never_more : Nat → Option FS := tab [(6, s_Book_never_more)]
theorem mo_never_more (S : SX fa fn cd.lams K mg base) : MethOk P w K mg base cn "never_more" 5 Mt_never_more :=
  meth_cons (S.cls 30) (S.meth 56) ((ok_Book_never_more S).mono (by decide)) (meth_nil)
/-! ### Book.less -/
theorem sc_Book_less : FnScope ["self", "b"] ["self", "b"] (defScope st_Book_less) := sc_of (by decide +kernel)
def m_Book_less : MS :=
  (mSeq (mDrop (eCall s_need_book (aCons (eVar 1) aNil))) (mRet (eAnd (eBin fIsN (eCall s_first_more (aCons (eUn (fFld Ft_entries "entries") (eVar 0)) (aCons (eUn (fFld Ft_entries "entries") (eVar 1)) aNil))) (eC .non)) (eBin fNotN (eCall s_first_more (aCons (eUn (fFld Ft_entries "entries") (eVar 1)) (aCons (eUn (fFld Ft_entries "entries") (eVar 0)) aNil))) (eC .non)))))
def s_Book_less : FS := fnOfN 2 2 m_Book_less
theorem ok_Book_less (S : SX fa fn cd.lams K mg base) : FnT P w K mg base cn (FAt.ad K (.meth "Book" "less")) 5 s_Book_less := by
  obtain ⟨fd, F⟩ := S.def_ 36
  exact fnT_of F sc_Book_less rfl (fun _ _ _ _ _ _ us hl => match us, hl with | [_, _], _ => rfl) (fun cdv A outer s H E W c =>
  (sss_cons (ss_expr (cl := true) (se_call ((ok_need_book S).mono (by decide)) c.tk c.room rfl (sa_cons (se_var (i := 1) rfl (.inl rfl)) sa_nil))) (sss_one (ss_ret (cl := true) (se_and (se_cmp op_isN o2_isN (se_call ((ok_first_more S).mono (by decide)) c.tk c.room rfl (sa_cons (se_fld (fo_entries S) (se_var (i := 0) rfl (.inl rfl))) (sa_cons (se_fld (fo_entries S) (se_var (i := 1) rfl (.inl rfl))) sa_nil))) se_non rfl) (se_one (se_cmp op_notN o2_notN (se_call ((ok_first_more S).mono (by decide)) c.tk c.room rfl (sa_cons (se_fld (fo_entries S) (se_var (i := 1) rfl (.inl rfl))) (sa_cons (se_fld (fo_entries S) (se_var (i := 0) rfl (.inl rfl))) sa_nil))) se_non rfl)))))))
def Mt_less : Nat → Option FS := tab [(6, s_Book_less)]
theorem mo_less (S : SX fa fn cd.lams K mg base) : MethOk P w K mg base cn "less" 5 Mt_less :=
  meth_cons (S.cls 30) (S.meth 57) ((ok_Book_less S).mono (by decide)) (meth_nil)
/-! ### never_more -/
theorem sc_never_more : FnScope ["account", "other_account"] ["account", "other_account"] (defScope st_never_more) := sc_of (by decide +kernel)
def m_never_more : MS :=
  (mSeq (mDrop (eCall s_need_account (aCons (eVar 0) aNil))) (mSeq (mDrop (eCall s_need_account (aCons (eVar 1) aNil))) (mRet (eBin fIsN (eCall s_first_more (aCons (eVar 0) (aCons (eVar 1) aNil))) (eC .non)))))
def s_never_more : FS := fnOfN 2 2 m_never_more
theorem ok_never_more (S : SX fa fn cd.lams K mg base) : FnS P w K mg base cn "never_more" 6 s_never_more := by
  obtain ⟨fd, F⟩ := S.def_ 37
  exact fnS_of F (S.glo 58) sc_never_more rfl (fun _ _ _ _ _ _ us hl => match us, hl with | [_, _], _ => rfl) (fun cdv A outer s H E W c =>
  (sss_cons (ss_expr (cl := true) (se_call ((ok_need_account S).mono (by decide)) c.tk c.room rfl (sa_cons (se_var (i := 0) rfl (.inl rfl)) sa_nil))) (sss_cons (ss_expr (cl := true) (se_call ((ok_need_account S).mono (by decide)) c.tk c.room rfl (sa_cons (se_var (i := 1) rfl (.inl rfl)) sa_nil))) (sss_one (ss_ret (cl := true) (se_cmp op_isN o2_isN (se_call ((ok_first_more S).mono (by decide)) c.tk c.room rfl (sa_cons (se_var (i := 0) rfl (.inl rfl)) (sa_cons (se_var (i := 1) rfl (.inl rfl)) sa_nil))) se_non rfl))))))
/-! ### _law_rule -/
theorem sc__law_rule : FnScope ["jar"] ["jar"] (defScope st__law_rule) := sc_of (by decide +kernel)
def m__law_rule : MS :=
  (mRet (eTup (aCons (eBin fIx (eLst (aCons (eC (.str "days")) (aCons (eC (.str "entered")) aNil))) (eCall s__law_pick (aCons (eVar 0) (aCons (eC (.int 2)) aNil)))) (aCons (eBin fIx (eLst (aCons (eC (.str "oldest")) (aCons (eC (.str "newest")) (aCons (eC (.str "greatest")) (aCons (eC (.str "least")) aNil))))) (eCall s__law_pick (aCons (eVar 0) (aCons (eC (.int 4)) aNil)))) aNil))))
def s__law_rule : FS := fnOfN 1 1 m__law_rule
theorem ok__law_rule (S : SX fa fn cd.lams K mg base) : FnS P w K mg base cn "_law_rule" 2 s__law_rule := by
  obtain ⟨fd, F⟩ := S.def_ 38
  exact fnS_of F (S.glo 59) sc__law_rule rfl (fun _ _ _ _ _ _ us hl => match us, hl with | [_], _ => rfl) (fun cdv A outer s H E W c =>
  (sss_one (ss_ret (cl := true) (se_tup (sa_cons (se_ix (se_lst (sa_cons se_str (sa_cons se_str sa_nil))) (se_call ((ok__law_pick S).mono (by decide)) c.tk c.room rfl (sa_cons (se_var (i := 0) rfl (.inl rfl)) (sa_cons se_int sa_nil))) (fun _ _ => rfl)) (sa_cons (se_ix (se_lst (sa_cons se_str (sa_cons se_str (sa_cons se_str (sa_cons se_str sa_nil))))) (se_call ((ok__law_pick S).mono (by decide)) c.tk c.room rfl (sa_cons (se_var (i := 0) rfl (.inl rfl)) (sa_cons se_int sa_nil))) (fun _ _ => rfl)) sa_nil))))))
/-! ### _law_along -/
theorem sc__law_along : FnScope ["entries", "rows", "spot", "when"] ["entries"] (defScope st__law_along) := sc_of (by decide +kernel)
def m__law_along : MS :=
  (mSeq (mSet 1 (eUn fSort (eNew (lcM false (itR1 (eUn fLen (eVar 0))) (Tg.nm 2) (eBin fNe (eBin fIx (eBin fIx (eVar 0) (eVar 2)) (eC (.int 0))) (eC (.str "struck"))) (eTup (aCons (eBin fIx (eBin fIx (eVar 0) (eVar 2)) (eC (.int 1))) (aCons (eVar 2) aNil))) [2])))) (mRet (eNew (lcM false (itSeq (eVar 1)) (Tg.tp [3, 2]) (eC (.bl true)) (eVar 2) [3, 2]))))
def s__law_along : FS := fnOfN 1 4 m__law_along
theorem ok__law_along (S : SX fa fn cd.lams K mg base) : FnS P w K mg base cn "_law_along" 1 s__law_along := by
  obtain ⟨fd, F⟩ := S.def_ 39
  exact fnS_of F (S.glo 60) sc__law_along rfl (fun _ _ _ _ _ _ us hl => match us, hl with | [_], _ => rfl) (fun cdv A outer s H E W c =>
  (sss_cons (ss_set (i := 1) c.nd rfl (.inl rfl) (x_sorted c.units rfl (S.free 14) (se_new (sf_lc (own := ([("spot", 2)] : List (Str × Nat))) (t := (Tg.nm 2)) (ck := false) c.calm c.nd (si_r1 rfl (S.free 5) (x_len rfl (S.free 3) (se_var (i := 0) rfl (.inr (.inl rfl))))) (blk_of (by kernel_rfl)) (fun _ _ _ _ _ => (pg_name (i := 2) c.nd rfl (.inl rfl))) (fun _ _ _ _ _ => (sts_one (st_cmp (op_neA c.units) o2_ne (se_ix (se_ix (se_var (i := 0) rfl (.inr (.inl rfl))) (se_var (i := 2) rfl (.inl rfl)) (fun _ _ => rfl)) se_int (fun _ _ => rfl)) se_str rfl))) (fun _ _ _ _ _ => (se_tup (sa_cons (se_ix (se_ix (se_var (i := 0) rfl (.inr (.inl rfl))) (se_var (i := 2) rfl (.inl rfl)) (fun _ _ => rfl)) se_int (fun _ _ => rfl)) (sa_cons (se_var (i := 2) rfl (.inl rfl)) sa_nil)))))))) (sss_one (ss_ret (cl := true) (se_new (sf_lc (own := ([("when", 3), ("spot", 2)] : List (Str × Nat))) (t := (Tg.tp [3, 2])) (ck := false) c.calm c.nd (si_seq (se_var (i := 1) rfl (.inl rfl))) (blk_of (by kernel_rfl)) (fun _ _ _ _ _ => (pg_tup c.calm (pgs_cons (pg_name (i := 3) c.nd rfl (.inl rfl)) (pgs_cons (pg_name (i := 2) c.nd rfl (.inl rfl)) pgs_nil)))) (fun _ _ _ _ _ => sts_nil) (fun _ _ _ _ _ => (se_var (i := 2) rfl (.inl rfl)))))))))
/-! ### _law_partner -/
theorem sc__law_partner : FnScope ["entries", "along", "rests", "spot", "choice", "others", "sums", "best", "other"] ["entries", "along", "rests", "spot", "choice"] (defScope st__law_partner) := sc_of (by decide +kernel)
def m__law_partner : MS :=
  (mSeq (mSet_ 5 (lcM false (itSeq (eVar 1)) (Tg.nm 8) (eAnd (eBin fGt (eBin fIx (eVar 2) (eVar 8)) (eC (.int 0))) (eBin fNe (eBin fEq (eBin fIx (eBin fIx (eVar 0) (eVar 8)) (eC (.int 0))) (eC (.str "bill"))) (eBin fEq (eBin fIx (eBin fIx (eVar 0) (eVar 3)) (eC (.int 0))) (eC (.str "bill"))))) (eVar 8) [8])) (mSeq (mIf (eBin fEq (eVar 5) (eLst aNil)) (mRet (eC .non)) mNext) (mSeq (mIf (eOr (eBin fEq (eBin fIx (eBin fIx (eVar 0) (eVar 3)) (eC (.int 0))) (eC (.str "bill"))) (eBin fEq (eVar 4) (eC (.str "oldest")))) (mRet (eBin fIx (eVar 5) (eC (.int 0)))) mNext) (mSeq (mIf (eBin fEq (eVar 4) (eC (.str "newest"))) (mRet (eBin fIx (eVar 5) (eUn fNeg (eC (.int 1))))) mNext) (mSeq (mSet_ 6 (lcM false (itSeq (eVar 5)) (Tg.nm 8) (eC (.bl true)) (eBin fIx (eVar 2) (eVar 8)) [8])) (mSeq (mSet 7 (eIf (eBin fEq (eVar 4) (eC (.str "greatest"))) (eUn fMax1 (eVar 6)) (eUn fMin1 (eVar 6)))) (mRet (eBin fIx (eVar 5) (eIndex (eVar 6) (eVar 7))))))))))
def s__law_partner : FS := fnOfN 5 9 m__law_partner
theorem ok__law_partner (S : SX fa fn cd.lams K mg base) : FnS P w K mg base cn "_law_partner" 1 s__law_partner := by
  obtain ⟨fd, F⟩ := S.def_ 40
  exact fnS_of F (S.glo 62) sc__law_partner rfl (fun _ _ _ _ _ _ us hl => match us, hl with | [_, _, _, _, _], _ => rfl) (fun cdv A outer s H E W c =>
  (sss_cons (ss_setLc (i := 5) (own := ([("other", 8)] : List (Str × Nat))) (t := (Tg.nm 8)) c.calm c.nd rfl rfl rfl (si_seq (se_var (i := 1) rfl (.inl rfl))) (blk_of (by kernel_rfl)) (fun _ _ _ _ _ => (pg_name (i := 8) c.nd rfl (.inl rfl))) (fun _ _ _ _ _ => (sts_one (sw_pt (sw_and (st_cmp op_gt o2_cmp (se_ix (se_var (i := 2) rfl (.inr (.inl rfl))) (se_var (i := 8) rfl (.inl rfl)) (fun _ _ => rfl)) se_int rfl) (sw_and1 (st_cmp (op_neA c.units) o2_ne (se_cmp (op_eqA c.units) o2_eq (se_ix (se_ix (se_var (i := 0) rfl (.inr (.inl rfl))) (se_var (i := 8) rfl (.inl rfl)) (fun _ _ => rfl)) se_int (fun _ _ => rfl)) se_str rfl) (se_cmp (op_eqA c.units) o2_eq (se_ix (se_ix (se_var (i := 0) rfl (.inr (.inl rfl))) (se_var (i := 3) rfl (.inr (.inl rfl))) (fun _ _ => rfl)) se_int (fun _ _ => rfl)) se_str rfl) rfl)))))) (fun _ _ _ _ _ => (se_var (i := 8) rfl (.inl rfl)))) (sss_cons (ss_if (cl := true) (st_cmp (op_eqA c.units) o2_eq (se_var (i := 5) rfl (.inl rfl)) (se_lst sa_nil) rfl) (sss_one (ss_ret (cl := true) se_non)) sss_nil) (sss_cons (ss_if (cl := true) (sw_pt (sw_or (st_cmp (op_eqA c.units) o2_eq (se_ix (se_ix (se_var (i := 0) rfl (.inr (.inl rfl))) (se_var (i := 3) rfl (.inr (.inl rfl))) (fun _ _ => rfl)) se_int (fun _ _ => rfl)) se_str rfl) (sw_or1 (st_cmp (op_eqA c.units) o2_eq (se_var (i := 4) rfl (.inl rfl)) se_str rfl)))) (sss_one (ss_ret (cl := true) (se_ix (se_var (i := 5) rfl (.inl rfl)) se_int (fun _ _ => rfl)))) sss_nil) (sss_cons (ss_if (cl := true) (st_cmp (op_eqA c.units) o2_eq (se_var (i := 4) rfl (.inl rfl)) se_str rfl) (sss_one (ss_ret (cl := true) (se_ix (se_var (i := 5) rfl (.inl rfl)) (se_un un_neg o1_neg se_int) (fun _ _ => rfl)))) sss_nil) (sss_cons (ss_setLc (i := 6) (own := ([("other", 8)] : List (Str × Nat))) (t := (Tg.nm 8)) c.calm c.nd rfl rfl rfl (si_seq (se_var (i := 5) rfl (.inl rfl))) (blk_of (by kernel_rfl)) (fun _ _ _ _ _ => (pg_name (i := 8) c.nd rfl (.inl rfl))) (fun _ _ _ _ _ => sts_nil) (fun _ _ _ _ _ => (se_ix (se_var (i := 2) rfl (.inr (.inl rfl))) (se_var (i := 8) rfl (.inl rfl)) (fun _ _ => rfl)))) (sss_cons (ss_set (i := 7) c.nd rfl (.inl rfl) (se_if (st_cmp (op_eqA c.units) o2_eq (se_var (i := 4) rfl (.inl rfl)) se_str rfl) (x_max1 c.calm rfl (S.free 37) (se_var (i := 6) rfl (.inl rfl))) (x_min1 c.calm rfl (S.free 61) (se_var (i := 6) rfl (.inl rfl))))) (sss_one (ss_ret (cl := true) (se_ix (se_var (i := 5) rfl (.inl rfl)) (se_index (se_var (i := 6) rfl (.inl rfl)) (se_var (i := 7) rfl (.inl rfl))) (fun _ _ => rfl)))))))))))
/-! ### _law_by_rule -/
theorem sc__law_by_rule : FnScope ["entries", "rule", "rests", "found", "along", "spot", "k", "other", "much", "pair", "row"] ["entries", "rule"] (defScope st__law_by_rule) := sc_of (by decide +kernel)
def m__law_by_rule : MS :=
  (mSeq (mOwn 2 (lcM false (itSeq (eVar 0)) (Tg.nm 10) (eC (.bl true)) (eC (.int 0)) [10])) (mSeq (mOwn 3 (nLst aNil)) (mSeq (mSet 4 (eCall s__law_along (aCons (eVar 0) aNil))) (mSeq (mFor (itSeq (eIf (eBin fEq (eBin fIx (eVar 1) (eC (.int 0))) (eC (.str "days"))) (eVar 4) (eUn fSort (eVar 4)))) (Tg.nm 5) (mSeq (mPut 2 (eVar 5) (eBin fIx (eBin fIx (eVar 0) (eVar 5)) (eC (.int 2)))) (mFor (itR1 (eBin fAdd (eUn fLen (eVar 0)) (eC (.int 1)))) (Tg.nm 6) (mSeq (mSetU 7 (eIf (eBin fGt (eBin fIx (eOwn 2) (eVar 5)) (eC (.int 0))) (eCall s__law_partner (aCons (eVar 0) (aCons (eVar 4) (aCons (eOwn 2) (aCons (eVar 5) (aCons (eBin fIx (eVar 1) (eC (.int 1))) aNil)))))) (eC .non))) (mSeq (mIf (eAnd (eBin fEq (eBin fIx (eBin fIx (eVar 0) (eVar 5)) (eC (.int 0))) (eC (.str "named"))) (eAnd (eBin fEq (eVar 6) (eC (.int 0))) (eBin fGt (eBin fIx (eOwn 2) (eBin fIx (eBin fIx (eVar 0) (eVar 5)) (eC (.int 3)))) (eC (.int 0))))) (mSet 7 (eBin fIx (eBin fIx (eVar 0) (eVar 5)) (eC (.int 3)))) mNext) (mSeq (mIf (eBin fIsN (eVar 7) (eC .non)) mBreak mNext) (mSeq (mSetU 8 (eBin fMin2 (eBin fIx (eOwn 2) (eVar 5)) (eBin fIx (eOwn 2) (eVar 7)))) (mSeq (mPutU 2 (eVar 5) (eBin fSub (eBin fIx (eOwn 2) (eVar 5)) (eVar 8))) (mSeq (mPutU 2 (eVar 7) (eBin fSub (eBin fIx (eOwn 2) (eVar 7)) (eVar 8))) (mSeq (mSet 9 (eIf (eBin fEq (eBin fIx (eBin fIx (eVar 0) (eVar 5)) (eC (.int 0))) (eC (.str "bill"))) (eTup (aCons (eVar 5) (aCons (eVar 7) aNil))) (eTup (aCons (eVar 7) (aCons (eVar 5) aNil))))) (mApp 3 (eBin fAdd (eVar 9) (eTup (aCons (eVar 8) aNil)))))))))))))) (mRet (eUn fSort (eOwn 3)))))))
def s__law_by_rule : FS := fnOfN 2 11 m__law_by_rule
theorem ok__law_by_rule (S : SX fa fn cd.lams K mg base) : FnS P w K mg base cn "_law_by_rule" 2 s__law_by_rule := by
  obtain ⟨fd, F⟩ := S.def_ 41
  exact fnS_of F (S.glo 63) sc__law_by_rule rfl (fun _ _ _ _ _ _ us hl => match us, hl with | [_, _], _ => rfl) (fun cdv A outer s H E W c =>
  (sss_cons (ss_ownLc (i := 2) (own := ([("row", 10)] : List (Str × Nat))) (t := (Tg.nm 10)) c.calm c.nd rfl rfl rfl (si_seq (se_var (i := 0) rfl (.inl rfl))) (blk_of (by kernel_rfl)) (fun _ _ _ _ _ => (pg_name (i := 10) c.nd rfl (.inl rfl))) (fun _ _ _ _ _ => sts_nil) (fun _ _ _ _ _ => se_int)) (sss_cons (ss_own (i := 3) c.nd rfl (.inl rfl) (sf_lst sa_nil)) (sss_cons (ss_set (i := 4) c.nd rfl (.inl rfl) (se_call ((ok__law_along S).mono (by decide)) c.tk c.room rfl (sa_cons (se_var (i := 0) rfl (.inl rfl)) sa_nil))) (sss_cons (ss_for (t := (Tg.nm 5)) c (si_seq (se_if (st_cmp (op_eqA c.units) o2_eq (se_ix (se_var (i := 1) rfl (.inl rfl)) se_int (fun _ _ => rfl)) se_str rfl) (se_var (i := 4) rfl (.inl rfl)) (x_sorted c.units rfl (S.free 14) (se_var (i := 4) rfl (.inl rfl))))) (pg_name (i := 5) c.nd rfl (.inl rfl)) (sss_cons (ss_put (i := 2) (se_ix (se_ix (se_var (i := 0) rfl (.inl rfl)) (se_var (i := 5) rfl (.inl rfl)) (fun _ _ => rfl)) se_int (fun _ _ => rfl)) (pg_sub (pe_var (i := 2) rfl (.inl rfl)) (se_var (i := 5) rfl (.inl rfl)) set_list)) (sss_one (ss_for (t := (Tg.nm 6)) c (si_r1 rfl (S.free 5) (se_bin op_addA o2_add (x_len rfl (S.free 3) (se_var (i := 0) rfl (.inl rfl))) se_int)) (pg_name (i := 6) c.nd rfl (.inl rfl)) (sss_cons (ss_setU (i := 7) c.nd rfl (.inl rfl) (se_if (st_cmp op_gt o2_cmp (se_ix (se_own (i := 2) rfl (.inl rfl)) (se_var (i := 5) rfl (.inl rfl)) (fun _ _ => rfl)) se_int rfl) (se_call ((ok__law_partner S).mono (by decide)) c.tk c.room rfl (sa_cons (se_var (i := 0) rfl (.inl rfl)) (sa_cons (se_var (i := 4) rfl (.inl rfl)) (sa_cons (se_own (i := 2) rfl (.inl rfl)) (sa_cons (se_var (i := 5) rfl (.inl rfl)) (sa_cons (se_ix (se_var (i := 1) rfl (.inl rfl)) se_int (fun _ _ => rfl)) sa_nil)))))) se_non)) (sss_cons (ss_if (cl := false) (sw_pt (sw_and (st_cmp (op_eqA c.units) o2_eq (se_ix (se_ix (se_var (i := 0) rfl (.inl rfl)) (se_var (i := 5) rfl (.inl rfl)) (fun _ _ => rfl)) se_int (fun _ _ => rfl)) se_str rfl) (sw_and (st_cmp (op_eqA c.units) o2_eq (se_var (i := 6) rfl (.inl rfl)) se_int rfl) (sw_and1 (st_cmp op_gt o2_cmp (se_ix (se_own (i := 2) rfl (.inl rfl)) (se_ix (se_ix (se_var (i := 0) rfl (.inl rfl)) (se_var (i := 5) rfl (.inl rfl)) (fun _ _ => rfl)) se_int (fun _ _ => rfl)) (fun _ _ => rfl)) se_int rfl))))) (sss_one (ss_set (i := 7) c.nd rfl (.inl rfl) (se_ix (se_ix (se_var (i := 0) rfl (.inl rfl)) (se_var (i := 5) rfl (.inl rfl)) (fun _ _ => rfl)) se_int (fun _ _ => rfl)))) sss_nil) (sss_cons (ss_if (cl := true) (st_cmp op_isN o2_isN (se_var (i := 7) rfl (.inl rfl)) se_non rfl) (sss_one ss_break) sss_nil) (sss_cons (ss_setU (i := 8) c.nd rfl (.inl rfl) (x_min c.calm rfl (S.free 61) (se_ix (se_own (i := 2) rfl (.inl rfl)) (se_var (i := 5) rfl (.inl rfl)) (fun _ _ => rfl)) (se_ix (se_own (i := 2) rfl (.inl rfl)) (se_var (i := 7) rfl (.inl rfl)) (fun _ _ => rfl)))) (sss_cons (ss_putU (cl := false) (i := 2) (se_bin op_sub o2_sub (se_ix (se_own (i := 2) rfl (.inl rfl)) (se_var (i := 5) rfl (.inl rfl)) (fun _ _ => rfl)) (se_var (i := 8) rfl (.inl rfl))) (pg_sub (pe_var (i := 2) rfl (.inl rfl)) (se_var (i := 5) rfl (.inl rfl)) set_list)) (sss_cons (ss_putU (cl := false) (i := 2) (se_bin op_sub o2_sub (se_ix (se_own (i := 2) rfl (.inl rfl)) (se_var (i := 7) rfl (.inl rfl)) (fun _ _ => rfl)) (se_var (i := 8) rfl (.inl rfl))) (pg_sub (pe_var (i := 2) rfl (.inl rfl)) (se_var (i := 7) rfl (.inl rfl)) set_list)) (sss_cons (ss_set (i := 9) c.nd rfl (.inl rfl) (se_if (st_cmp (op_eqA c.units) o2_eq (se_ix (se_ix (se_var (i := 0) rfl (.inl rfl)) (se_var (i := 5) rfl (.inl rfl)) (fun _ _ => rfl)) se_int (fun _ _ => rfl)) se_str rfl) (se_tup (sa_cons (se_var (i := 5) rfl (.inl rfl)) (sa_cons (se_var (i := 7) rfl (.inl rfl)) sa_nil))) (se_tup (sa_cons (se_var (i := 7) rfl (.inl rfl)) (sa_cons (se_var (i := 5) rfl (.inl rfl)) sa_nil))))) (sss_one (ss_app (i := 3) (pe_bm PySem.F.plainAttrs_list PySem.F.slot_list_append PySem.F.type_list_append mt_append (pe_var (i := 3) rfl (.inl rfl)) (pa_cons (se_bin op_addA o2_add (se_var (i := 9) rfl (.inl rfl)) (se_tup (sa_cons (se_var (i := 8) rfl (.inl rfl)) sa_nil))) pa_nil))))))))))))))) (sss_one (ss_ret (cl := false) (x_sorted c.units rfl (S.free 14) (se_own (i := 3) rfl (.inl rfl))))))))))
/-! ### is_manner -/
theorem sc_is_manner : FnScope ["value"] ["value"] (defScope st_is_manner) := sc_of (by decide +kernel)
def m_is_manner : MS :=
  (mSeq (mIf (eOr (eNot (eUn (fIsB g "tuple") (eVar 0))) (eBin fNe (eUn fLen (eVar 0)) (eC (.int 2)))) (mRet (eC (.bl false))) mNext) (mSeq (mIf (eOr (eNot (eUn (fIsB g "str") (eBin fIx (eVar 0) (eC (.int 0))))) (eNot (eUn (fIsB g "str") (eBin fIx (eVar 0) (eC (.int 1)))))) (mRet (eC (.bl false))) mNext) (mRet (eAnd (eBin (inD false) (eBin fIx (eVar 0) (eC (.int 0))) (eC (.tup [.str "days", .str "entered"]))) (eBin (inD false) (eBin fIx (eVar 0) (eC (.int 1))) (eC (.tup [.str "oldest", .str "newest", .str "greatest", .str "least"])))))))
def s_is_manner : FS := fnOfN 1 1 m_is_manner
theorem ok_is_manner (S : SX fa fn cd.lams K mg base) : FnS P w K mg base cn "is_manner" 1 s_is_manner := by
  obtain ⟨fd, F⟩ := S.def_ 42
  exact fnS_of F (S.glo 66) sc_is_manner rfl (fun _ _ _ _ _ _ us hl => match us, hl with | [_], _ => rfl) (fun cdv A outer s H E W c =>
  (sss_cons (ss_if (cl := true) (sw_pt (sw_or (st_not (st_val (se_isB (n := "tuple") (S.kf 17) rfl (S.free 18) (se_var (i := 0) rfl (.inl rfl)) rfl (S.free 6) blt_tuple (by decide)))) (sw_or1 (st_cmp (op_neA c.units) o2_ne (x_len rfl (S.free 3) (se_var (i := 0) rfl (.inl rfl))) se_int rfl)))) (sss_one (ss_ret (cl := true) se_bl)) sss_nil) (sss_cons (ss_if (cl := true) (sw_pt (sw_or (st_not (st_val (se_isB (n := "str") (S.kf 17) rfl (S.free 18) (se_ix (se_var (i := 0) rfl (.inl rfl)) se_int (fun _ _ => rfl)) rfl (S.free 19) blt_str (by decide)))) (sw_or1 (st_not (st_val (se_isB (n := "str") (S.kf 17) rfl (S.free 18) (se_ix (se_var (i := 0) rfl (.inl rfl)) se_int (fun _ _ => rfl)) rfl (S.free 19) blt_str (by decide))))))) (sss_one (ss_ret (cl := true) se_bl)) sss_nil) (sss_one (ss_ret (cl := true) (se_and (se_cmp op_in_seq o2_in (se_ix (se_var (i := 0) rfl (.inl rfl)) se_int (fun _ _ => rfl)) (se_gc (S.con 64) rfl) rfl) (se_one (se_cmp op_in_seq o2_in (se_ix (se_var (i := 0) rfl (.inl rfl)) se_int (fun _ _ => rfl)) (se_gc (S.con 65) rfl) rfl))))))))
/-! ### need_manner -/
theorem sc_need_manner : FnScope ["value"] ["value"] (defScope st_need_manner) := sc_of (by decide +kernel)
def m_need_manner : MS :=
  (mIf (eNot (eCall s_is_manner (aCons (eVar 0) aNil))) (mRaise 2) mNext)
def s_need_manner : FS := fnOfN 1 1 m_need_manner
theorem ok_need_manner (S : SX fa fn cd.lams K mg base) : FnS P w K mg base cn "need_manner" 2 s_need_manner := by
  obtain ⟨fd, F⟩ := S.def_ 43
  exact fnS_of F (S.glo 68) sc_need_manner rfl (fun _ _ _ _ _ _ us hl => match us, hl with | [_], _ => rfl) (fun cdv A outer s H E W c =>
  (sss_one (ss_if (cl := true) (st_not (st_val (se_call ((ok_is_manner S).mono (by decide)) c.tk c.room rfl (sa_cons (se_var (i := 0) rfl (.inl rfl)) sa_nil)))) (sss_one (ss_raise c (S.exc 67) rfl rfl)) sss_nil)))
/-! ### line_of -/
theorem sc_line_of : FnScope ["account", "indexes", "at"] ["account"] (defScope st_line_of) := sc_of (by decide +kernel)
def m_line_of : MS :=
  (mSeq (mSet_ 1 (lcM false (itR1 (eUn fLen (eVar 0))) (Tg.nm 2) (eBin fNe (eBin fIx (eBin fIx (eVar 0) (eVar 2)) (eC (.int 0))) (eC (.str "struck"))) (eVar 2) [2])) (mRet (eSortLam 0 (eVar 1))))
def s_line_of : FS := fnOfN 1 3 m_line_of
theorem ok_line_of (S : SX fa fn cd.lams K mg base) : FnS P w K mg base cn "line_of" 1 s_line_of := by
  obtain ⟨fd, F⟩ := S.def_ 44
  exact fnS_ofL F (S.glo 69) sc_line_of rfl (fun _ _ _ _ _ _ us hl => match us, hl with | [_], _ => rfl) (fun A outer s H E W c =>
  (sss_cons (ss_setLc (i := 1) (own := ([("at", 2)] : List (Str × Nat))) (t := (Tg.nm 2)) c.calm c.nd rfl rfl rfl (si_r1 rfl (S.free 5) (x_len rfl (S.free 3) (se_var (i := 0) rfl (.inr (.inl rfl))))) (blk_of (by kernel_rfl)) (fun _ _ _ _ _ => (pg_name (i := 2) c.nd rfl (.inl rfl))) (fun _ _ _ _ _ => (sts_one (st_cmp (op_neA c.units) o2_ne (se_ix (se_ix (se_var (i := 0) rfl (.inr (.inl rfl))) (se_var (i := 2) rfl (.inl rfl)) (fun _ _ => rfl)) se_int (fun _ _ => rfl)) se_str rfl))) (fun _ _ _ _ _ => (se_var (i := 2) rfl (.inl rfl)))) (sss_one (ss_ret (cl := true) (se_sortLam (i := 0) c rfl (S.free 14) (se_var (i := 1) rfl (.inl rfl)) (S.tab "line_of" (List.mem_cons_self ..)))))))
/-! ### chosen_bill -/
theorem sc_chosen_bill : FnScope ["indexes", "rests", "choice", "best", "at"] ["indexes", "rests", "choice"] (defScope st_chosen_bill) := sc_of (by decide +kernel)
def m_chosen_bill : MS :=
  (mSeq (mIf (eBin fEq (eVar 2) (eC (.str "newest"))) (mRet (eBin fIx (eVar 0) (eUn fNeg (eC (.int 1))))) mNext) (mSeq (mSet 3 (eBin fIx (eVar 0) (eC (.int 0)))) (mSeq (mFor (itSeq (eVar 0)) (Tg.nm 4) (mSeq (mIf (eAnd (eBin fEq (eVar 2) (eC (.str "greatest"))) (eBin fGt (eBin fIx (eVar 1) (eVar 4)) (eBin fIx (eVar 1) (eVar 3)))) (mSet 3 (eVar 4)) mNext) (mIf (eAnd (eBin fEq (eVar 2) (eC (.str "least"))) (eBin fLt (eBin fIx (eVar 1) (eVar 4)) (eBin fIx (eVar 1) (eVar 3)))) (mSet 3 (eVar 4)) mNext))) (mRet (eVar 3)))))
def s_chosen_bill : FS := fnOfN 3 5 m_chosen_bill
theorem ok_chosen_bill (S : SX fa fn cd.lams K mg base) : FnS P w K mg base cn "chosen_bill" 1 s_chosen_bill := by
  obtain ⟨fd, F⟩ := S.def_ 45
  exact fnS_of F (S.glo 70) sc_chosen_bill rfl (fun _ _ _ _ _ _ us hl => match us, hl with | [_, _, _], _ => rfl) (fun cdv A outer s H E W c =>
  (sss_cons (ss_if (cl := true) (st_cmp (op_eqA c.units) o2_eq (se_var (i := 2) rfl (.inl rfl)) se_str rfl) (sss_one (ss_ret (cl := true) (se_ix (se_var (i := 0) rfl (.inl rfl)) (se_un un_neg o1_neg se_int) (fun _ _ => rfl)))) sss_nil) (sss_cons (ss_set (i := 3) c.nd rfl (.inl rfl) (se_ix (se_var (i := 0) rfl (.inl rfl)) se_int (fun _ _ => rfl))) (sss_cons (ss_for (t := (Tg.nm 4)) c (si_seq (se_var (i := 0) rfl (.inl rfl))) (pg_name (i := 4) c.nd rfl (.inl rfl)) (sss_cons (ss_if (cl := true) (sw_pt (sw_and (st_cmp (op_eqA c.units) o2_eq (se_var (i := 2) rfl (.inl rfl)) se_str rfl) (sw_and1 (st_cmp op_gt o2_cmp (se_ix (se_var (i := 1) rfl (.inl rfl)) (se_var (i := 4) rfl (.inl rfl)) (fun _ _ => rfl)) (se_ix (se_var (i := 1) rfl (.inl rfl)) (se_var (i := 3) rfl (.inl rfl)) (fun _ _ => rfl)) rfl)))) (sss_one (ss_set (i := 3) c.nd rfl (.inl rfl) (se_var (i := 4) rfl (.inl rfl)))) sss_nil) (sss_one (ss_if (cl := true) (sw_pt (sw_and (st_cmp (op_eqA c.units) o2_eq (se_var (i := 2) rfl (.inl rfl)) se_str rfl) (sw_and1 (st_cmp op_lt o2_cmp (se_ix (se_var (i := 1) rfl (.inl rfl)) (se_var (i := 4) rfl (.inl rfl)) (fun _ _ => rfl)) (se_ix (se_var (i := 1) rfl (.inl rfl)) (se_var (i := 3) rfl (.inl rfl)) (fun _ _ => rfl)) rfl)))) (sss_one (ss_set (i := 3) c.nd rfl (.inl rfl) (se_var (i := 4) rfl (.inl rfl)))) sss_nil)))) (sss_one (ss_ret (cl := true) (se_var (i := 3) rfl (.inl rfl))))))))
/-! ### partner -/
theorem sc_partner : FnScope ["account", "along", "rests", "at", "choice", "entry", "moneys", "debts", "other"] ["account", "along", "rests", "at", "choice"] (defScope st_partner) := sc_of (by decide +kernel)
def m_partner : MS :=
  (mSeq (mSet 5 (eBin fIx (eVar 0) (eVar 3))) (mSeq (mIf (eAnd (eBin fEq (eBin fIx (eVar 5) (eC (.int 0))) (eC (.str "named"))) (eBin fGt (eBin fIx (eVar 2) (eBin fIx (eVar 5) (eC (.int 3)))) (eC (.int 0)))) (mRet (eBin fIx (eVar 5) (eC (.int 3)))) mNext) (mSeq (mIf (eBin fEq (eBin fIx (eVar 5) (eC (.int 0))) (eC (.str "bill"))) (mSeq (mSet_ 6 (lcM false (itSeq (eVar 1)) (Tg.nm 8) (eAnd (eBin fNe (eBin fIx (eBin fIx (eVar 0) (eVar 8)) (eC (.int 0))) (eC (.str "bill"))) (eBin fGt (eBin fIx (eVar 2) (eVar 8)) (eC (.int 0)))) (eVar 8) [8])) (mRet (eIf (eBin fNe (eVar 6) (eLst aNil)) (eBin fIx (eVar 6) (eC (.int 0))) (eC .non)))) mNext) (mSeq (mSet_ 7 (lcM false (itSeq (eVar 1)) (Tg.nm 8) (eAnd (eBin fEq (eBin fIx (eBin fIx (eVar 0) (eVar 8)) (eC (.int 0))) (eC (.str "bill"))) (eBin fGt (eBin fIx (eVar 2) (eVar 8)) (eC (.int 0)))) (eVar 8) [8])) (mRet (eIf (eBin fNe (eVar 7) (eLst aNil)) (eCall s_chosen_bill (aCons (eVar 7) (aCons (eVar 2) (aCons (eVar 4) aNil)))) (eC .non)))))))
def s_partner : FS := fnOfN 5 9 m_partner
theorem ok_partner (S : SX fa fn cd.lams K mg base) : FnS P w K mg base cn "partner" 2 s_partner := by
  obtain ⟨fd, F⟩ := S.def_ 46
  exact fnS_of F (S.glo 71) sc_partner rfl (fun _ _ _ _ _ _ us hl => match us, hl with | [_, _, _, _, _], _ => rfl) (fun cdv A outer s H E W c =>
  (sss_cons (ss_set (i := 5) c.nd rfl (.inl rfl) (se_ix (se_var (i := 0) rfl (.inr (.inl rfl))) (se_var (i := 3) rfl (.inl rfl)) (fun _ _ => rfl))) (sss_cons (ss_if (cl := true) (sw_pt (sw_and (st_cmp (op_eqA c.units) o2_eq (se_ix (se_var (i := 5) rfl (.inl rfl)) se_int (fun _ _ => rfl)) se_str rfl) (sw_and1 (st_cmp op_gt o2_cmp (se_ix (se_var (i := 2) rfl (.inr (.inl rfl))) (se_ix (se_var (i := 5) rfl (.inl rfl)) se_int (fun _ _ => rfl)) (fun _ _ => rfl)) se_int rfl)))) (sss_one (ss_ret (cl := true) (se_ix (se_var (i := 5) rfl (.inl rfl)) se_int (fun _ _ => rfl)))) sss_nil) (sss_cons (ss_if (cl := true) (st_cmp (op_eqA c.units) o2_eq (se_ix (se_var (i := 5) rfl (.inl rfl)) se_int (fun _ _ => rfl)) se_str rfl) (sss_cons (ss_setLc (i := 6) (own := ([("other", 8)] : List (Str × Nat))) (t := (Tg.nm 8)) c.calm c.nd rfl rfl rfl (si_seq (se_var (i := 1) rfl (.inl rfl))) (blk_of (by kernel_rfl)) (fun _ _ _ _ _ => (pg_name (i := 8) c.nd rfl (.inl rfl))) (fun _ _ _ _ _ => (sts_one (sw_pt (sw_and (st_cmp (op_neA c.units) o2_ne (se_ix (se_ix (se_var (i := 0) rfl (.inr (.inl rfl))) (se_var (i := 8) rfl (.inl rfl)) (fun _ _ => rfl)) se_int (fun _ _ => rfl)) se_str rfl) (sw_and1 (st_cmp op_gt o2_cmp (se_ix (se_var (i := 2) rfl (.inr (.inl rfl))) (se_var (i := 8) rfl (.inl rfl)) (fun _ _ => rfl)) se_int rfl)))))) (fun _ _ _ _ _ => (se_var (i := 8) rfl (.inl rfl)))) (sss_one (ss_ret (cl := true) (se_if (st_cmp (op_neA c.units) o2_ne (se_var (i := 6) rfl (.inl rfl)) (se_lst sa_nil) rfl) (se_ix (se_var (i := 6) rfl (.inl rfl)) se_int (fun _ _ => rfl)) se_non)))) sss_nil) (sss_cons (ss_setLc (i := 7) (own := ([("other", 8)] : List (Str × Nat))) (t := (Tg.nm 8)) c.calm c.nd rfl rfl rfl (si_seq (se_var (i := 1) rfl (.inl rfl))) (blk_of (by kernel_rfl)) (fun _ _ _ _ _ => (pg_name (i := 8) c.nd rfl (.inl rfl))) (fun _ _ _ _ _ => (sts_one (sw_pt (sw_and (st_cmp (op_eqA c.units) o2_eq (se_ix (se_ix (se_var (i := 0) rfl (.inr (.inl rfl))) (se_var (i := 8) rfl (.inl rfl)) (fun _ _ => rfl)) se_int (fun _ _ => rfl)) se_str rfl) (sw_and1 (st_cmp op_gt o2_cmp (se_ix (se_var (i := 2) rfl (.inr (.inl rfl))) (se_var (i := 8) rfl (.inl rfl)) (fun _ _ => rfl)) se_int rfl)))))) (fun _ _ _ _ _ => (se_var (i := 8) rfl (.inl rfl)))) (sss_one (ss_ret (cl := true) (se_if (st_cmp (op_neA c.units) o2_ne (se_var (i := 7) rfl (.inl rfl)) (se_lst sa_nil) rfl) (se_call ((ok_chosen_bill S).mono (by decide)) c.tk c.room rfl (sa_cons (se_var (i := 7) rfl (.inl rfl)) (sa_cons (se_var (i := 2) rfl (.inr (.inl rfl))) (sa_cons (se_var (i := 4) rfl (.inl rfl)) sa_nil)))) se_non))))))))
/-! ### pairs_of -/
theorem sc_pairs_of : FnScope ["account", "manner", "along", "steps", "rests", "pairs", "at", "other", "much", "entry"] ["account", "manner"] (defScope st_pairs_of) := sc_of (by decide +kernel)
def m_pairs_of : MS :=
  (mSeq (mSet 2 (eCall s_line_of (aCons (eVar 0) aNil))) (mSeq (mSet 3 (eIf (eBin fEq (eBin fIx (eVar 1) (eC (.int 0))) (eC (.str "days"))) (eVar 2) (eUn fSort (eVar 2)))) (mSeq (mOwn 4 (lcM false (itSeq (eVar 0)) (Tg.nm 9) (eC (.bl true)) (eC (.int 0)) [9])) (mSeq (mOwn 5 (nLst aNil)) (mSeq (mFor (itSeq (eVar 3)) (Tg.nm 6) (mSeq (mPut 4 (eVar 6) (eBin fIx (eBin fIx (eVar 0) (eVar 6)) (eC (.int 2)))) (mWhile 100000 (eBin fGt (eBin fIx (eOwn 4) (eVar 6)) (eC (.int 0))) (mSeq (mSetU 7 (eCall s_partner (aCons (eVar 0) (aCons (eVar 2) (aCons (eOwn 4) (aCons (eVar 6) (aCons (eBin fIx (eVar 1) (eC (.int 1))) aNil))))))) (mSeq (mIf (eBin fIsN (eVar 7) (eC .non)) mBreak mNext) (mSeq (mSetU 8 (eBin fMin2 (eBin fIx (eOwn 4) (eVar 6)) (eBin fIx (eOwn 4) (eVar 7)))) (mSeq (mPutU 4 (eVar 6) (eBin fSub (eBin fIx (eOwn 4) (eVar 6)) (eVar 8))) (mSeq (mPutU 4 (eVar 7) (eBin fSub (eBin fIx (eOwn 4) (eVar 7)) (eVar 8))) (mIf (eBin fEq (eBin fIx (eBin fIx (eVar 0) (eVar 6)) (eC (.int 0))) (eC (.str "bill"))) (mApp 5 (eTup (aCons (eVar 6) (aCons (eVar 7) (aCons (eVar 8) aNil))))) (mApp 5 (eTup (aCons (eVar 7) (aCons (eVar 6) (aCons (eVar 8) aNil)))))))))))))) (mRet (eUn fSort (eOwn 5))))))))
def s_pairs_of : FS := fnOfN 2 10 m_pairs_of
theorem ok_pairs_of (S : SX fa fn cd.lams K mg base) : FnS P w K mg base cn "pairs_of" 3 s_pairs_of := by
  obtain ⟨fd, F⟩ := S.def_ 47
  exact fnS_of F (S.glo 72) sc_pairs_of rfl (fun _ _ _ _ _ _ us hl => match us, hl with | [_, _], _ => rfl) (fun cdv A outer s H E W c =>
  (sss_cons (ss_set (i := 2) c.nd rfl (.inl rfl) (se_call ((ok_line_of S).mono (by decide)) c.tk c.room rfl (sa_cons (se_var (i := 0) rfl (.inl rfl)) sa_nil))) (sss_cons (ss_set (i := 3) c.nd rfl (.inl rfl) (se_if (st_cmp (op_eqA c.units) o2_eq (se_ix (se_var (i := 1) rfl (.inl rfl)) se_int (fun _ _ => rfl)) se_str rfl) (se_var (i := 2) rfl (.inl rfl)) (x_sorted c.units rfl (S.free 14) (se_var (i := 2) rfl (.inl rfl))))) (sss_cons (ss_ownLc (i := 4) (own := ([("entry", 9)] : List (Str × Nat))) (t := (Tg.nm 9)) c.calm c.nd rfl rfl rfl (si_seq (se_var (i := 0) rfl (.inl rfl))) (blk_of (by kernel_rfl)) (fun _ _ _ _ _ => (pg_name (i := 9) c.nd rfl (.inl rfl))) (fun _ _ _ _ _ => sts_nil) (fun _ _ _ _ _ => se_int)) (sss_cons (ss_own (i := 5) c.nd rfl (.inl rfl) (sf_lst sa_nil)) (sss_cons (ss_for (t := (Tg.nm 6)) c (si_seq (se_var (i := 3) rfl (.inl rfl))) (pg_name (i := 6) c.nd rfl (.inl rfl)) (sss_cons (ss_put (i := 4) (se_ix (se_ix (se_var (i := 0) rfl (.inl rfl)) (se_var (i := 6) rfl (.inl rfl)) (fun _ _ => rfl)) se_int (fun _ _ => rfl)) (pg_sub (pe_var (i := 4) rfl (.inl rfl)) (se_var (i := 6) rfl (.inl rfl)) set_list)) (sss_one (ss_while (n := 100000) c (st_cmp op_gt o2_cmp (se_ix (se_own (i := 4) rfl (.inl rfl)) (se_var (i := 6) rfl (.inl rfl)) (fun _ _ => rfl)) se_int rfl) (sss_cons (ss_setU (i := 7) c.nd rfl (.inl rfl) (se_call ((ok_partner S).mono (by decide)) c.tk c.room rfl (sa_cons (se_var (i := 0) rfl (.inl rfl)) (sa_cons (se_var (i := 2) rfl (.inl rfl)) (sa_cons (se_own (i := 4) rfl (.inl rfl)) (sa_cons (se_var (i := 6) rfl (.inl rfl)) (sa_cons (se_ix (se_var (i := 1) rfl (.inl rfl)) se_int (fun _ _ => rfl)) sa_nil))))))) (sss_cons (ss_if (cl := true) (st_cmp op_isN o2_isN (se_var (i := 7) rfl (.inl rfl)) se_non rfl) (sss_one ss_break) sss_nil) (sss_cons (ss_setU (i := 8) c.nd rfl (.inl rfl) (x_min c.calm rfl (S.free 61) (se_ix (se_own (i := 4) rfl (.inl rfl)) (se_var (i := 6) rfl (.inl rfl)) (fun _ _ => rfl)) (se_ix (se_own (i := 4) rfl (.inl rfl)) (se_var (i := 7) rfl (.inl rfl)) (fun _ _ => rfl)))) (sss_cons (ss_putU (cl := false) (i := 4) (se_bin op_sub o2_sub (se_ix (se_own (i := 4) rfl (.inl rfl)) (se_var (i := 6) rfl (.inl rfl)) (fun _ _ => rfl)) (se_var (i := 8) rfl (.inl rfl))) (pg_sub (pe_var (i := 4) rfl (.inl rfl)) (se_var (i := 6) rfl (.inl rfl)) set_list)) (sss_cons (ss_putU (cl := false) (i := 4) (se_bin op_sub o2_sub (se_ix (se_own (i := 4) rfl (.inl rfl)) (se_var (i := 7) rfl (.inl rfl)) (fun _ _ => rfl)) (se_var (i := 8) rfl (.inl rfl))) (pg_sub (pe_var (i := 4) rfl (.inl rfl)) (se_var (i := 7) rfl (.inl rfl)) set_list)) (sss_one (ss_if (cl := true) (st_cmp (op_eqA c.units) o2_eq (se_ix (se_ix (se_var (i := 0) rfl (.inl rfl)) (se_var (i := 6) rfl (.inl rfl)) (fun _ _ => rfl)) se_int (fun _ _ => rfl)) se_str rfl) (sss_one (ss_app (i := 5) (pe_bm PySem.F.plainAttrs_list PySem.F.slot_list_append PySem.F.type_list_append mt_append (pe_var (i := 5) rfl (.inl rfl)) (pa_cons (se_tup (sa_cons (se_var (i := 6) rfl (.inl rfl)) (sa_cons (se_var (i := 7) rfl (.inl rfl)) (sa_cons (se_var (i := 8) rfl (.inl rfl)) sa_nil)))) pa_nil)))) (sss_one (ss_app (i := 5) (pe_bm PySem.F.plainAttrs_list PySem.F.slot_list_append PySem.F.type_list_append mt_append (pe_var (i := 5) rfl (.inl rfl)) (pa_cons (se_tup (sa_cons (se_var (i := 7) rfl (.inl rfl)) (sa_cons (se_var (i := 6) rfl (.inl rfl)) (sa_cons (se_var (i := 8) rfl (.inl rfl)) sa_nil)))) pa_nil))))))))))))))) (sss_one (ss_ret (cl := false) (x_sorted c.units rfl (S.free 14) (se_own (i := 5) rfl (.inl rfl)))))))))))
/-! ### Book.laid -/
theorem sc_Book_laid : FnScope ["self", "manner"] ["self", "manner"] (defScope st_Book_laid) := sc_of (by decide +kernel)
def m_Book_laid : MS :=
  (mSeq (mDrop (eCall s_need_manner (aCons (eVar 1) aNil))) (mRet (eCall s_pairs_of (aCons (eUn (fFld Ft_entries "entries") (eVar 0)) (aCons (eVar 1) aNil)))))
def s_Book_laid : FS := fnOfN 2 2 m_Book_laid
abbrev N_Book_laid : List Str := ["self", "manner"]
theorem okk_Book_laid (S : SX fa fn cd.lams K mg base) : FnKK P w K mg base cn "laid" "Book.laid" (defArgs st_Book_laid) (defBody st_Book_laid) (defScope st_Book_laid) (FAt.ad K (.meth "Book" "laid")) ["self", "manner"] 4 2 (fnOf N_Book_laid.length m_Book_laid) := by
  obtain ⟨fd, F⟩ := S.def_ 48
  exact ⟨fd, F, fnK_of F sc_Book_laid rfl (fun cdv A outer s H E W c =>
  (sss_cons (ss_expr (cl := true) (se_call ((ok_need_manner S).mono (by decide)) c.tk c.room rfl (sa_cons (se_var (i := 1) rfl (.inl rfl)) sa_nil))) (sss_one (ss_ret (cl := true) (se_call ((ok_pairs_of S).mono (by decide)) c.tk c.room rfl (sa_cons (se_fld (fo_entries S) (se_var (i := 0) rfl (.inl rfl))) (sa_cons (se_var (i := 1) rfl (.inl rfl)) sa_nil)))))))⟩
theorem ok_Book_laid (S : SX fa fn cd.lams K mg base) : FnT P w K mg base cn (FAt.ad K (.meth "Book" "laid")) 4 s_Book_laid := kk_T (N := N_Book_laid) (okk_Book_laid S) rfl (fun _ _ _ _ _ _ us hl => match us, hl with | [_, _], _ => rfl)
def Mt_laid : Nat → Option FS := tab [(6, s_Book_laid)]
theorem mo_laid (S : SX fa fn cd.lams K mg base) : MethOk P w K mg base cn "laid" 4 Mt_laid :=
  meth_cons (S.cls 30) (S.meth 73) ((ok_Book_laid S).mono (by decide)) (meth_nil)
/-! ### laid -/
theorem sc_laid : FnScope ["account", "manner"] ["account", "manner"] (defScope st_laid) := sc_of (by decide +kernel)
def m_laid : MS :=
  (mSeq (mDrop (eCall s_need_account (aCons (eVar 0) aNil))) (mSeq (mDrop (eCall s_need_manner (aCons (eVar 1) aNil))) (mRet (eCall s_pairs_of (aCons (eVar 0) (aCons (eVar 1) aNil))))))
def s_laid : FS := fnOfN 2 2 m_laid
abbrev N_laid : List Str := ["account", "manner"]
theorem okk_laid (S : SX fa fn cd.lams K mg base) : FnKK P w K mg base cn "laid" "laid" (defArgs st_laid) (defBody st_laid) (defScope st_laid) (FAt.ad K (.glo "laid")) ["account", "manner"] 6 2 (fnOf N_laid.length m_laid) := by
  obtain ⟨fd, F⟩ := S.def_ 49
  exact ⟨fd, F, fnK_of F sc_laid rfl (fun cdv A outer s H E W c =>
  (sss_cons (ss_expr (cl := true) (se_call ((ok_need_account S).mono (by decide)) c.tk c.room rfl (sa_cons (se_var (i := 0) rfl (.inl rfl)) sa_nil))) (sss_cons (ss_expr (cl := true) (se_call ((ok_need_manner S).mono (by decide)) c.tk c.room rfl (sa_cons (se_var (i := 1) rfl (.inl rfl)) sa_nil))) (sss_one (ss_ret (cl := true) (se_call ((ok_pairs_of S).mono (by decide)) c.tk c.room rfl (sa_cons (se_var (i := 0) rfl (.inl rfl)) (sa_cons (se_var (i := 1) rfl (.inl rfl)) sa_nil))))))))⟩
theorem ok_laid (S : SX fa fn cd.lams K mg base) : FnS P w K mg base cn "laid" 6 s_laid := ⟨_, (S.glo 74), kk_T (N := N_laid) (okk_laid S) rfl (fun _ _ _ _ _ _ us hl => match us, hl with | [_, _], _ => rfl)⟩
def Mk_2 : Nat → Option FS := tab [(6, (permFS [0, 1] s_Book_laid))]
theorem mok_2 (S : SX fa fn cd.lams K mg base) : MethKW P w K mg base cn "laid" 4 0 ["manner"] Mk_2 :=
  mkw_cons (S.cls 30) (S.meth 73) ((kk_KW (N := N_Book_laid) (okk_Book_laid S) 1 ["manner"] [0, 1] (by decide) rfl (fun _ _ _ _ _ _ us ws h1 h2 => match us, h1, ws, h2 with | [_], _, [_], _ => rfl)).mono (by decide)) (mkw_nil)
/-! ### _law_one -/
theorem sc__law_one : FnScope ["cell", "jar", "entries", "others", "spots", "volume", "beside", "sums", "never", "told", "rule", "due", "rows", "when", "k", "at"] ["cell"] (defScope st__law_one) := sc_of (by decide +kernel)
def m__law_one : MS :=
  (mSeq (mSet 1 (eCall s__law_bag_of (aCons (eVar 0) aNil))) (mSeq (mSet 2 (eCall s__law_any (aCons (eVar 1) (aCons (eBin fIx (eLst (aCons (eC (.int 4)) (aCons (eC (.int 9)) (aCons (eC (.int 9)) (aCons (eC (.int 31)) aNil))))) (eCall s__law_pick (aCons (eVar 1) (aCons (eC (.int 4)) aNil)))) aNil)))) (mSeq (mSet 3 (eCall s__law_other (aCons (eVar 1) (aCons (eVar 2) aNil)))) (mSeq (mSet 4 (eCall s__law_turning_days (aCons (eBin fAdd (eVar 2) (eVar 3)) aNil))) (mSeq (mSet 4 (eBin fAdd (eVar 4) (eLst (aCons (eBin fAdd (eBin fIx (eVar 4) (eUn fNeg (eC (.int 1)))) (eC (.int 1))) (aCons (eC (.int 1000000)) aNil))))) (mSeq (mSet 5 (eCall s__law_volume (aCons (eVar 2) aNil))) (mSeq (mSet 6 (eCall s__law_volume (aCons (eVar 3) aNil))) (mSeq (mIf (eNot (eCall s__law_on_days (aCons (eVar 5) (aCons (eVar 2) (aCons (eLst (aCons (eBin fIx (eVar 4) (eCall s__law_pick (aCons (eVar 1) (aCons (eUn fLen (eVar 4)) aNil)))) (aCons (eBin fIx (eVar 4) (eCall s__law_pick (aCons (eVar 1) (aCons (eUn fLen (eVar 4)) aNil)))) (aCons (eUn fNeg (eC (.int 1000000))) aNil)))) aNil))))) (mRet (eC (.bl false))) mNext) (mSeq (mIf (eNot (eCall s__law_on_days (aCons (eVar 6) (aCons (eVar 3) (aCons (eLst (aCons (eBin fIx (eVar 4) (eCall s__law_pick (aCons (eVar 1) (aCons (eUn fLen (eVar 4)) aNil)))) aNil)) aNil))))) (mRet (eC (.bl false))) mNext) (mSeq (mSet 7 (eNew (lcM false (itSeq (eLst (aCons (eVar 2) (aCons (eVar 3) aNil)))) (Tg.nm 12) (eC (.bl true)) (eNew (lcM false (itSeq (eVar 4)) (Tg.nm 13) (eC (.bl true)) (eBin fMax2 (eC (.int 0)) (eCall s__law_level (aCons (eVar 12) (aCons (eVar 13) aNil)))) [13])) [12]))) (mSeq (mSet_ 8 (lcM false (itR1 (eC (.int 2))) (Tg.nm 14) (eC (.bl true)) (eUn fAll (eNew (lcM false (itR1 (eUn fLen (eVar 4))) (Tg.nm 15) (eC (.bl true)) (eBin fLe (eBin fIx (eBin fIx (eVar 7) (eVar 14)) (eVar 15)) (eBin fIx (eBin fIx (eVar 7) (eBin fSub (eC (.int 1)) (eVar 14))) (eVar 15))) [15]))) [14])) (mSeq (mSet 9 (eAdopt (eLst (aCons (eMeth "never_more" Mt_never_more (eVar 5) (aCons (eVar 6) aNil)) (aCons (eMeth "never_more" Mt_never_more (eVar 6) (aCons (eVar 5) aNil)) (aCons (eMeth "less" Mt_less (eVar 5) (aCons (eVar 6) aNil)) (aCons (eMeth "less" Mt_less (eVar 6) (aCons (eVar 5) aNil)) aNil))))))) (mSeq (mIf (eNot (eCall s__law_like (aCons (eVar 9) (aCons (eBin fAdd (eVar 8) (eLst (aCons (eAnd (eBin fIx (eVar 8) (eC (.int 0))) (eNot (eBin fIx (eVar 8) (eC (.int 1))))) (aCons (eAnd (eBin fIx (eVar 8) (eC (.int 1))) (eNot (eBin fIx (eVar 8) (eC (.int 0))))) aNil)))) aNil)))) (mRet (eC (.bl false))) mNext) (mSeq (mIf (eNot (eCall s__law_like (aCons (eCall s_never_more (aCons (eVar 2) (aCons (eVar 3) aNil))) (aCons (eBin fIx (eVar 8) (eC (.int 0))) aNil)))) (mRet (eC (.bl false))) mNext) (mSeq (mSet 10 (eCall s__law_rule (aCons (eVar 1) aNil))) (mSeq (mSet 11 (eCall s__law_by_rule (aCons (eVar 2) (aCons (eVar 10) aNil)))) (mSeq (mSet 9 (eAdopt (eMeth "laid" Mt_laid (eVar 5) (aCons (eVar 10) aNil)))) (mSeq (mIf (eOr (eNot (eCall s__law_like (aCons (eVar 9) (aCons (eVar 11) aNil)))) (eNot (eCall s__law_like (aCons (eCall s_laid (aCons (eVar 2) (aCons (eVar 10) aNil))) (aCons (eVar 11) aNil))))) (mRet (eC (.bl false))) mNext) (mSeq (mDrop (eLm opClear (eVar 9) aNil)) (mSeq (mIf (eNot (eCall s__law_like (aCons (eMethK "laid" 0 (["manner"] : List Str).length Mk_2 (eVar 5) aNil (aCons (eVar 10) aNil)) (aCons (eVar 11) aNil)))) (mRet (eC (.bl false))) mNext) (mRet (eAnd (eCall s__law_is_volume (aCons (eVar 5) (aCons (eVar 2) aNil))) (eCall s__law_is_volume (aCons (eVar 6) (aCons (eVar 3) aNil)))))))))))))))))))))))))
def s__law_one : FS := fnOfN 1 16 m__law_one
theorem ok__law_one (S : SX fa fn cd.lams K mg base) : FnS P w K mg base cn "_law_one" 11 s__law_one := by
  obtain ⟨fd, F⟩ := S.def_ 50
  exact fnS_of F (S.glo 75) sc__law_one rfl (fun _ _ _ _ _ _ us hl => match us, hl with | [_], _ => rfl) (fun cdv A outer s H E W c =>
  (sss_cons (ss_set (i := 1) c.nd rfl (.inl rfl) (se_call ((ok__law_bag_of S).mono (by decide)) c.tk c.room rfl (sa_cons (se_var (i := 0) rfl (.inl rfl)) sa_nil))) (sss_cons (ss_set (i := 2) c.nd rfl (.inl rfl) (se_call ((ok__law_any S).mono (by decide)) c.tk c.room rfl (sa_cons (se_var (i := 1) rfl (.inl rfl)) (sa_cons (se_ix (se_lst (sa_cons se_int (sa_cons se_int (sa_cons se_int (sa_cons se_int sa_nil))))) (se_call ((ok__law_pick S).mono (by decide)) c.tk c.room rfl (sa_cons (se_var (i := 1) rfl (.inl rfl)) (sa_cons se_int sa_nil))) (fun _ _ => rfl)) sa_nil)))) (sss_cons (ss_set (i := 3) c.nd rfl (.inl rfl) (se_call ((ok__law_other S).mono (by decide)) c.tk c.room rfl (sa_cons (se_var (i := 1) rfl (.inl rfl)) (sa_cons (se_var (i := 2) rfl (.inl rfl)) sa_nil)))) (sss_cons (ss_set (i := 4) c.nd rfl (.inr rfl) (se_call ((ok__law_turning_days S).mono (by decide)) c.tk c.room rfl (sa_cons (se_bin op_addA o2_add (se_var (i := 2) rfl (.inl rfl)) (se_var (i := 3) rfl (.inl rfl))) sa_nil))) (sss_cons (ss_set (i := 4) c.nd rfl (.inr rfl) (se_bin op_addA o2_add (se_var (i := 4) rfl (.inr (.inl rfl))) (se_lst (sa_cons (se_bin op_addA o2_add (se_ix (se_var (i := 4) rfl (.inr (.inl rfl))) (se_un un_neg o1_neg se_int) (fun _ _ => rfl)) se_int) (sa_cons se_int sa_nil))))) (sss_cons (ss_set (i := 5) c.nd rfl (.inl rfl) (se_call ((ok__law_volume S).mono (by decide)) c.tk c.room rfl (sa_cons (se_var (i := 2) rfl (.inl rfl)) sa_nil))) (sss_cons (ss_set (i := 6) c.nd rfl (.inl rfl) (se_call ((ok__law_volume S).mono (by decide)) c.tk c.room rfl (sa_cons (se_var (i := 3) rfl (.inl rfl)) sa_nil))) (sss_cons (ss_if (cl := true) (st_not (st_val (se_call ((ok__law_on_days S).mono (by decide)) c.tk c.room rfl (sa_cons (se_var (i := 5) rfl (.inl rfl)) (sa_cons (se_var (i := 2) rfl (.inl rfl)) (sa_cons (se_lst (sa_cons (se_ix (se_var (i := 4) rfl (.inr (.inl rfl))) (se_call ((ok__law_pick S).mono (by decide)) c.tk c.room rfl (sa_cons (se_var (i := 1) rfl (.inl rfl)) (sa_cons (x_len rfl (S.free 3) (se_var (i := 4) rfl (.inr (.inl rfl)))) sa_nil))) (fun _ _ => rfl)) (sa_cons (se_ix (se_var (i := 4) rfl (.inr (.inl rfl))) (se_call ((ok__law_pick S).mono (by decide)) c.tk c.room rfl (sa_cons (se_var (i := 1) rfl (.inl rfl)) (sa_cons (x_len rfl (S.free 3) (se_var (i := 4) rfl (.inr (.inl rfl)))) sa_nil))) (fun _ _ => rfl)) (sa_cons (se_un un_neg o1_neg se_int) sa_nil)))) sa_nil)))))) (sss_one (ss_ret (cl := true) se_bl)) sss_nil) (sss_cons (ss_if (cl := true) (st_not (st_val (se_call ((ok__law_on_days S).mono (by decide)) c.tk c.room rfl (sa_cons (se_var (i := 6) rfl (.inl rfl)) (sa_cons (se_var (i := 3) rfl (.inl rfl)) (sa_cons (se_lst (sa_cons (se_ix (se_var (i := 4) rfl (.inr (.inl rfl))) (se_call ((ok__law_pick S).mono (by decide)) c.tk c.room rfl (sa_cons (se_var (i := 1) rfl (.inl rfl)) (sa_cons (x_len rfl (S.free 3) (se_var (i := 4) rfl (.inr (.inl rfl)))) sa_nil))) (fun _ _ => rfl)) sa_nil)) sa_nil)))))) (sss_one (ss_ret (cl := true) se_bl)) sss_nil) (sss_cons (ss_set (i := 7) c.nd rfl (.inr rfl) (se_new (sf_lc (own := ([("rows", 12)] : List (Str × Nat))) (t := (Tg.nm 12)) (ck := false) c.calm c.nd (si_seq (se_lst (sa_cons (se_var (i := 2) rfl (.inl rfl)) (sa_cons (se_var (i := 3) rfl (.inl rfl)) sa_nil)))) (blk_of (by kernel_rfl)) (fun _ _ _ _ _ => (pg_name (i := 12) c.nd rfl (.inr rfl))) (fun _ _ _ _ _ => sts_nil) (fun _ _ _ _ _ => (se_new (sf_lc (own := ([("when", 13)] : List (Str × Nat))) (t := (Tg.nm 13)) (ck := false) c.calm c.nd (si_seq (se_var (i := 4) rfl (.inr (.inl rfl)))) (blk_of (by kernel_rfl)) (fun _ _ _ _ _ => (pg_name (i := 13) c.nd rfl (.inl rfl))) (fun _ _ _ _ _ => sts_nil) (fun _ _ _ _ _ => (x_max c.calm rfl (S.free 37) se_int (se_call ((ok__law_level S).mono (by decide)) tkF c.room rfl (sa_cons (se_var (i := 12) rfl (.inr (.inl rfl))) (sa_cons (se_var (i := 13) rfl (.inl rfl)) sa_nil))))))))))) (sss_cons (ss_setLc (i := 8) (own := ([("k", 14)] : List (Str × Nat))) (t := (Tg.nm 14)) c.calm c.nd rfl rfl rfl (si_r1 rfl (S.free 5) se_int) (blk_of (by kernel_rfl)) (fun _ _ _ _ _ => (pg_name (i := 14) c.nd rfl (.inr rfl))) (fun _ _ _ _ _ => sts_nil) (fun _ _ _ _ _ => (x_all c.calm rfl (S.free 25) (se_new (sf_lc (own := ([("at", 15)] : List (Str × Nat))) (t := (Tg.nm 15)) (ck := false) c.calm c.nd (si_r1 rfl (S.free 5) (x_len rfl (S.free 3) (se_var (i := 4) rfl (.inr (.inl rfl))))) (blk_of (by kernel_rfl)) (fun _ _ _ _ _ => (pg_name (i := 15) c.nd rfl (.inl rfl))) (fun _ _ _ _ _ => sts_nil) (fun _ _ _ _ _ => (se_cmp op_le o2_cmp (se_ix (se_ix (se_var (i := 7) rfl (.inr (.inl rfl))) (se_var (i := 14) rfl (.inr (.inl rfl))) (fun _ _ => rfl)) (se_var (i := 15) rfl (.inl rfl)) (fun _ _ => rfl)) (se_ix (se_ix (se_var (i := 7) rfl (.inr (.inl rfl))) (se_bin op_sub o2_sub se_int (se_var (i := 14) rfl (.inr (.inl rfl)))) (fun _ _ => rfl)) (se_var (i := 15) rfl (.inl rfl)) (fun _ _ => rfl)) rfl))))))) (sss_cons (ss_set (i := 9) c.nd rfl (.inl rfl) (se_adopt (se_lst (sa_cons (se_meth (k := 5) (mo_never_more S) c.tk (c.room.mono (by decide)) (se_var (i := 5) rfl (.inl rfl)) (sa_cons (se_var (i := 6) rfl (.inl rfl)) sa_nil)) (sa_cons (se_meth (k := 5) (mo_never_more S) c.tk (c.room.mono (by decide)) (se_var (i := 6) rfl (.inl rfl)) (sa_cons (se_var (i := 5) rfl (.inl rfl)) sa_nil)) (sa_cons (se_meth (k := 5) (mo_less S) c.tk (c.room.mono (by decide)) (se_var (i := 5) rfl (.inl rfl)) (sa_cons (se_var (i := 6) rfl (.inl rfl)) sa_nil)) (sa_cons (se_meth (k := 5) (mo_less S) c.tk (c.room.mono (by decide)) (se_var (i := 6) rfl (.inl rfl)) (sa_cons (se_var (i := 5) rfl (.inl rfl)) sa_nil)) sa_nil))))))) (sss_cons (ss_if (cl := true) (st_not (st_val (se_call ((ok__law_like S).mono (by decide)) c.tk c.room rfl (sa_cons (se_var (i := 9) rfl (.inl rfl)) (sa_cons (se_bin op_addA o2_add (se_var (i := 8) rfl (.inl rfl)) (se_lst (sa_cons (se_and (se_ix (se_var (i := 8) rfl (.inl rfl)) se_int (fun _ _ => rfl)) (se_one (se_not (se_ix (se_var (i := 8) rfl (.inl rfl)) se_int (fun _ _ => rfl))))) (sa_cons (se_and (se_ix (se_var (i := 8) rfl (.inl rfl)) se_int (fun _ _ => rfl)) (se_one (se_not (se_ix (se_var (i := 8) rfl (.inl rfl)) se_int (fun _ _ => rfl))))) sa_nil)))) sa_nil))))) (sss_one (ss_ret (cl := true) se_bl)) sss_nil) (sss_cons (ss_if (cl := true) (st_not (st_val (se_call ((ok__law_like S).mono (by decide)) c.tk c.room rfl (sa_cons (se_call ((ok_never_more S).mono (by decide)) c.tk c.room rfl (sa_cons (se_var (i := 2) rfl (.inl rfl)) (sa_cons (se_var (i := 3) rfl (.inl rfl)) sa_nil))) (sa_cons (se_ix (se_var (i := 8) rfl (.inl rfl)) se_int (fun _ _ => rfl)) sa_nil))))) (sss_one (ss_ret (cl := true) se_bl)) sss_nil) (sss_cons (ss_set (i := 10) c.nd rfl (.inl rfl) (se_call ((ok__law_rule S).mono (by decide)) c.tk c.room rfl (sa_cons (se_var (i := 1) rfl (.inl rfl)) sa_nil))) (sss_cons (ss_set (i := 11) c.nd rfl (.inl rfl) (se_call ((ok__law_by_rule S).mono (by decide)) c.tk c.room rfl (sa_cons (se_var (i := 2) rfl (.inl rfl)) (sa_cons (se_var (i := 10) rfl (.inl rfl)) sa_nil)))) (sss_cons (ss_set (i := 9) c.nd rfl (.inl rfl) (se_adopt (se_meth (k := 4) (mo_laid S) c.tk (c.room.mono (by decide)) (se_var (i := 5) rfl (.inl rfl)) (sa_cons (se_var (i := 10) rfl (.inl rfl)) sa_nil)))) (sss_cons (ss_if (cl := true) (sw_pt (sw_or (st_not (st_val (se_call ((ok__law_like S).mono (by decide)) c.tk c.room rfl (sa_cons (se_var (i := 9) rfl (.inl rfl)) (sa_cons (se_var (i := 11) rfl (.inl rfl)) sa_nil))))) (sw_or1 (st_not (st_val (se_call ((ok__law_like S).mono (by decide)) c.tk c.room rfl (sa_cons (se_call ((ok_laid S).mono (by decide)) c.tk c.room rfl (sa_cons (se_var (i := 2) rfl (.inl rfl)) (sa_cons (se_var (i := 10) rfl (.inl rfl)) sa_nil))) (sa_cons (se_var (i := 11) rfl (.inl rfl)) sa_nil)))))))) (sss_one (ss_ret (cl := true) se_bl)) sss_nil) (sss_cons (ss_expr (cl := true) (se_lm0 PySem.F.slot_list_clear PySem.F.type_list_clear mt_clear lm_clear (se_var (i := 9) rfl (.inl rfl)))) (sss_cons (ss_if (cl := true) (st_not (st_val (se_call ((ok__law_like S).mono (by decide)) c.tk c.room rfl (sa_cons (se_meth0K (ks := ["manner"]) (k := 4) (mok_2 S) c.tk (c.room.mono (by decide)) (se_var (i := 5) rfl (.inl rfl)) (sk_cons (se_var (i := 10) rfl (.inl rfl)) sk_nil)) (sa_cons (se_var (i := 11) rfl (.inl rfl)) sa_nil))))) (sss_one (ss_ret (cl := true) se_bl)) sss_nil) (sss_one (ss_ret (cl := true) (se_and (se_call ((ok__law_is_volume S).mono (by decide)) c.tk c.room rfl (sa_cons (se_var (i := 5) rfl (.inl rfl)) (sa_cons (se_var (i := 2) rfl (.inl rfl)) sa_nil))) (se_one (se_call ((ok__law_is_volume S).mono (by decide)) c.tk c.room rfl (sa_cons (se_var (i := 6) rfl (.inl rfl)) (sa_cons (se_var (i := 3) rfl (.inl rfl)) sa_nil))))))))))))))))))))))))))))
/-! ### law -/
theorem sc_law : FnScope ["script", "great", "cell"] ["script"] (defScope st_law) := sc_of (by decide +kernel)
def m_law : MS :=
  (mSeq (mSet 1 (eBin fAdd (eBin fPow (eC (.int 10)) (eC (.int 18))) (eC (.int 7901984843886844562600996564974878985555838655652191449302546095426168577516)))) (mSeq (mFor (itSeq (eBin fAdd (eLst (aCons (eVar 1) aNil)) (eSl (eVar 0) oNone (oSome (eC (.int 6)))))) (Tg.nm 2) (mIf (eNot (eCall s__law_one (aCons (eVar 2) aNil))) (mRet (eC (.bl false))) mNext)) (mRet (eC (.bl true)))))
def s_law : FS := fnOfN 1 3 m_law
abbrev nslots_law : Nat := 3
abbrev glo_law : Nat := 76
theorem okk_law (S0 : SX0 fa fn K mg) : ∃ fd, (∀ (s : Shared) (v : Value), BindsTo s fd ⟨[v], []⟩ [(("script" : Str), v)]) ∧ ∀ base : Heap, (∀ f ∈ cd.lams, LamX.TabB base mg (codeAd K f) (tabAd K f)) → FnOk P w K mg base (L2.CX P w) 12 (FAt.ad K (.glo "law")) fd ["script"] (fun vs H Q E => vs.length = 1 ∧ spOf K cn (fnOf 3 m_law) vs H Q E) := by
  obtain ⟨fd, F⟩ := S0.def_ 51
  refine ⟨fd, fun s v => (FunD.bindsA (ps := ["script"]) F fun _ _ _ _ _ _ us hl => match us, hl with | [_], _ => rfl) s [v] rfl, fun base hT => ?_⟩
  have S : SX fa fn cd.lams K mg base := ⟨S0, hT⟩
  exact fnK_of F sc_law rfl (fun cdv A outer s H E W c =>
  (sss_cons (ss_set (i := 1) c.nd rfl (.inl rfl) (se_bin op_addA o2_add (se_bin op_pow o2_pow se_int se_int) se_int)) (sss_cons (ss_for (t := (Tg.nm 2)) c (si_seq (se_bin op_addA o2_add (se_lst (sa_cons (se_var (i := 1) rfl (.inl rfl)) sa_nil)) (se_sl (se_var (i := 0) rfl (.inl rfl)) so_none (so_some se_int)))) (pg_name (i := 2) c.nd rfl (.inl rfl)) (sss_one (ss_if (cl := true) (st_not (st_val (se_call ((ok__law_one S).mono (by decide)) c.tk c.room rfl (sa_cons (se_var (i := 2) rfl (.inl rfl)) sa_nil)))) (sss_one (ss_ret (cl := true) se_bl)) sss_nil))) (sss_one (ss_ret (cl := true) se_bl)))))
theorem ok_law (S : SX fa fn cd.lams K mg base) : FnS P w K mg base cn "law" 12 s_law := by
  obtain ⟨fd, F⟩ := S.def_ 51
  exact fnS_of F (S.glo 76) sc_law rfl (fun _ _ _ _ _ _ us hl => match us, hl with | [_], _ => rfl) (fun cdv A outer s H E W c =>
  (sss_cons (ss_set (i := 1) c.nd rfl (.inl rfl) (se_bin op_addA o2_add (se_bin op_pow o2_pow se_int se_int) se_int)) (sss_cons (ss_for (t := (Tg.nm 2)) c (si_seq (se_bin op_addA o2_add (se_lst (sa_cons (se_var (i := 1) rfl (.inl rfl)) sa_nil)) (se_sl (se_var (i := 0) rfl (.inl rfl)) so_none (so_some se_int)))) (pg_name (i := 2) c.nd rfl (.inl rfl)) (sss_one (ss_if (cl := true) (st_not (st_val (se_call ((ok__law_one S).mono (by decide)) c.tk c.room rfl (sa_cons (se_var (i := 2) rfl (.inl rfl)) sa_nil)))) (sss_one (ss_ret (cl := true) se_bl)) sss_nil))) (sss_one (ss_ret (cl := true) se_bl)))))
end

end G_k78
namespace G_k78
open Fx PySem
theorem pick1 {j n : Nat} {st : Sto} {many : Int} (h : Jar j (n + 1) st) (hm : 0 < many) (hb : bits many 4000 = true) : ∃ k st', s__law_pick [.obj j, .int many] st = .ok (.int k) st' ∧ 0 ≤ k ∧ k < many ∧ Jar j n st' ∧ Fr j st st' := by
  have hl := h.lt
  obtain ⟨a, s, c, h1, h2, h3, h4, h5⟩ := h
  have i0 : L2.atI [D.int a, D.int s, D.int c] 0 = some (.int a) := rfl
  have i1 : L2.atI [D.int a, D.int s, D.int c] 1 = some (.int s) := rfl
  have i2 : L2.atI [D.int a, D.int s, D.int c] 2 = some (.int c) := rfl
  by_cases ha : 0 < a
  · refine ⟨a % many, st.set j (.lst [.int (a / many), .int s, .int c]), ?_, Int.emod_nonneg _ (by omega), Int.emod_lt_of_pos _ hm, ⟨a / many, s, c, by simp [hl], h2, h3, h4, by omega⟩, Fr.set⟩
    simp [s__law_pick, m__law_pick, startE, fIx_o h1 i0, ha, fMod_i hm, fDiv_i hm hb, storeAt, h1, noLst, L2.ixN]
  · have ha' : decide (0 < a) = false := decide_eq_false ha
    obtain ⟨c', rfl⟩ : ∃ c', c = c' - 1 := ⟨c + 1, by omega⟩
    have h1' : (st.set j (MO.lst [.int a, .int s, .int c']))[j]? = some (.lst [.int a, .int s, .int c']) := by simp [hl]
    have i1' : L2.atI [D.int a, D.int s, D.int c'] 1 = some (.int s) := rfl
    have i2' : L2.atI [D.int a, D.int s, D.int c'] 2 = some (.int c') := rfl
    have e1 : ∀ st, fMul (.int 911) (.int c') st = .ok (.int (911 * c')) st := fun st => fMul_i (by decide +kernel) (bits_bd (by omega) (by omega))
    obtain ⟨b1, b2⟩ := mul_bd (a := c') (b := c') (A := 10 ^ 13) (B := 10 ^ 13) (by omega) (by omega) (by omega) (by omega)
    have e2 : ∀ st, fMul (.int c') (.int c') st = .ok (.int (c' * c')) st := fun st => fMul_i (bits_bd (by omega) (by omega)) (bits_bd (by omega) (by omega))
    generalize hq : c' * c' = q at b1 b2 e2
    have e3 : ∀ st, fMul (.int (s + 911 * c')) (.int (q + 613)) st = .ok (.int ((s + 911 * c') * (q + 613))) st := fun st => fMul_i (bits_bd (by omega) (by omega)) (bits_bd (by omega) (by omega))
    obtain ⟨b3, b4⟩ := mul_bd (a := s + 911 * c') (b := q + 613) (A := 10 ^ 32) (B := 10 ^ 27) (by omega) (by omega) (by omega) (by omega)
    generalize hz : (s + 911 * c') * (q + 613) = z at b3 b4 e3
    have e4 : ∀ st, fMul (.int (z + 5)) (.int (z + 5)) st = .ok (.int ((z + 5) * (z + 5))) st := fun st => fMul_i (bits_bd (by omega) (by omega)) (bits_bd (by omega) (by omega))
    have e5 : ∀ st, fMul (.int 40503) (.int (z + 5)) st = .ok (.int (40503 * (z + 5))) st := fun st => fMul_i (by decide +kernel) (bits_bd (by omega) (by omega))
    have e6 : ∀ st, fPow (.int 10) (.int 21) st = .ok (.int (10 ^ 21)) st := fun st => fPow_i (by decide) (by decide) (by decide)
    have e7 : ∀ st, fPow (.int 10) (.int 9) st = .ok (.int (10 ^ 9)) st := fun st => fPow_i (by decide) (by decide) (by decide)
    have e8 : ∀ st, fPow (.int 10) (.int 15) st = .ok (.int (10 ^ 15)) st := fun st => fPow_i (by decide) (by decide) (by decide)
    generalize hu : ((z + 5) * (z + 5) + 40503 * (z + 5)) = u
    have b5 : 0 ≤ u % (10 ^ 21 + 117) := Int.emod_nonneg _ (by decide)
    have b6 : u % (10 ^ 21 + 117) < 10 ^ 21 + 117 := Int.emod_lt_of_pos _ (by decide)
    have e9 : ∀ st, fMod (.int u) (.int (10 ^ 21 + 117)) st = .ok (.int (u % (10 ^ 21 + 117))) st := fun st => fMod_i (by decide)
    generalize hy : u % (10 ^ 21 + 117) = y at b5 b6 e9
    have e10 : ∀ st, fMul (.int y) (.int y) st = .ok (.int (y * y)) st := fun st => fMul_i (bits_bd (by omega) (by omega)) (bits_bd (by omega) (by omega))
    have e11 : ∀ v st, fDiv (.int v) (.int (10 ^ 9)) st = .ok (.int (v / 10 ^ 9)) st := fun v st => fDiv_i (by decide) (by decide +kernel)
    have e12 : ∀ st, fMul (.int 31) (.int c') st = .ok (.int (31 * c')) st := fun st => fMul_i (by decide +kernel) (bits_bd (by omega) (by omega))
    have e13 : ∀ v st, fMod (.int v) (.int (10 ^ 15 + 37)) st = .ok (.int (v % (10 ^ 15 + 37))) st := fun v st => fMod_i (by decide)
    have e14 : ∀ v st, fDiv (.int v) (.int 11) st = .ok (.int (v / 11)) st := fun v st => fDiv_i (by decide) (by decide +kernel)
    refine ⟨_, st.set j (.lst [.int a, .int s, .int c']), ?_, Int.emod_nonneg ((y * y / 10 ^ 9 + 31 * c') % (10 ^ 15 + 37) / 11) (by omega), Int.emod_lt_of_pos _ hm, ⟨a, s, c', by simp [hl], h2, h3, by omega, by omega⟩, Fr.set⟩
    have e0 : c' - 1 + 1 = c' := by omega
    simp [s__law_pick, m__law_pick, startE, fIx_o h1 i2, fIx_o h1 i0, ha', storeAt, h1, noLst, L2.ixN, e0, fIx_o h1' i1', fIx_o h1' i2', e1, e2, e3, e4, e5, e6, e7, e8, e9, e10, e11, e12, e13, e14, hq, hz, hu, hy, fMod_i hm, -Int.reducePow, -Int.reduceAdd]

/-! ### accounts -/
theorem hw_e (e : Ent) (ws : List Str) (st : Sto) : s_has_word [e.D, .tup (ws.map D.str)] st = .ok (.bl (ws.any fun y => decide (y = match e with | .str => "struck" | .bill _ _ => "bill" | .pay _ _ => "pay" | .nam _ _ _ => "named"))) st := by
  cases e <;> simp [Ent.D, s_has_word, m_has_word, startE, fIsB, bty, isB, fIx, L2.atI, L2.ixN, inD_str]
theorem hw_1 (e : Ent) (w : Str) (st : Sto) : s_has_word [e.D, .tup [.str w]] st = .ok (.bl (decide (w = match e with | .str => "struck" | .bill _ _ => "bill" | .pay _ _ => "pay" | .nam _ _ _ => "named"))) st := by
  have h := hw_e e [w] st
  simpa using h
theorem hw_2 (e : Ent) (w v : Str) (st : Sto) : s_has_word [e.D, .tup [.str w, .str v]] st = .ok (.bl (decide (w = match e with | .str => "struck" | .bill _ _ => "bill" | .pay _ _ => "pay" | .nam _ _ _ => "named") || decide (v = match e with | .str => "struck" | .bill _ _ => "bill" | .pay _ _ => "pay" | .nam _ _ _ => "named"))) st := by
  have h := hw_e e [w, v] st
  simpa using h
theorem isint_i (d : Int) (st : Sto) : s_is_integer [.int d] st = .ok (.bl true) st := by
  simp [s_is_integer, m_is_integer, startE, fIsB, bty, isB]
theorem plain_bill (d s : Int) (st : Sto) : s_is_plain_entry [.tup [.str "bill", .int d, .int s]] st = .ok (.bl (decide (1 ≤ s))) st := by
  have h := hw_2 (.bill d s) "bill" "pay" st
  simp only [Ent.D] at h
  simp [s_is_plain_entry, m_is_plain_entry, startE, h, w_pb, fIx, L2.atI, L2.ixN, isint_i]
theorem plain_pay (d s : Int) (st : Sto) : s_is_plain_entry [.tup [.str "pay", .int d, .int s]] st = .ok (.bl (decide (1 ≤ s))) st := by
  have h := hw_2 (.pay d s) "bill" "pay" st
  simp only [Ent.D] at h
  simp [s_is_plain_entry, m_is_plain_entry, startE, h, w_bp, fIx, L2.atI, L2.ixN, isint_i]
theorem form_e (e : Ent) (h : e.s1) (st : Sto) : s_has_entry_form [e.D] st = .ok (.bl true) st := by
  have h1 := hw_1 e "struck" st
  have h2 := hw_1 e "named" st
  cases e with
  | str => 
    simp only [Ent.D] at h1 h2
    simp [Ent.D, s_has_entry_form, m_has_entry_form, startE, h1]
  | bill d s =>
    simp only [Ent.D, Ent.s1] at h h1 h2
    simp [Ent.D, s_has_entry_form, m_has_entry_form, startE, h1, h2, w_sb, w_nb, plain_bill, h]
  | pay d s =>
    simp only [Ent.D, Ent.s1] at h h1 h2
    simp [Ent.D, s_has_entry_form, m_has_entry_form, startE, h1, h2, w_sp, w_np, plain_pay, h]
  | nam d s k =>
    simp only [Ent.D, Ent.s1] at h h1 h2
    simp [Ent.D, s_has_entry_form, m_has_entry_form, startE, h1, h2, w_sn, fIx, L2.atI, L2.ixN, plain_pay, isint_i, h]
theorem nr_e (es : List Ent) (e : Ent) (h : e.nm es) (hl : es.length ≤ 100000) (st : Sto) : s_names_rightly [accD es, e.D] st = .ok (.bl true) st := by
  cases e with
  | str => simp [Ent.D, s_names_rightly, m_names_rightly, startE, fIx, L2.atI, L2.ixN, w_sn]
  | bill d s => simp [Ent.D, s_names_rightly, m_names_rightly, startE, fIx, L2.atI, L2.ixN, w_bn]
  | pay d s => simp [Ent.D, s_names_rightly, m_names_rightly, startE, fIx, L2.atI, L2.ixN, w_pn]
  | nam d s k =>
    obtain ⟨h0, d', s', h1, h2⟩ := h
    obtain ⟨n, rfl⟩ := Int.eq_ofNat_of_zero_le h0
    simp only [Int.toNat_natCast] at h1
    have hn : n < es.length := (List.getElem?_eq_some_iff.mp h1).1
    have e1 : L2.atI (es.map Ent.D) (n : Int) = some (Ent.D (.bill d' s')) := atI_nat (by rw [List.getElem?_map, h1]; rfl)
    have e2 : ∀ st, fIx (.tup (es.map Ent.D)) (.int (n : Int)) st = .ok (Ent.D (.bill d' s')) st := fun st => fIx_t e1
    have e4 : ∀ (x y z w : D) st, fIx (.tup [x, y, z, w]) (.int 0) st = .ok x st := fun _ _ _ _ _ => rfl
    have e5 : ∀ (x y z w : D) st, fIx (.tup [x, y, z, w]) (.int 1) st = .ok y st := fun _ _ _ _ _ => rfl
    have e6 : ∀ (x y z w : D) st, fIx (.tup [x, y, z, w]) (.int 3) st = .ok w st := fun _ _ _ _ _ => rfl
    have e7 : ∀ (x y z : D) st, fIx (.tup [x, y, z]) (.int 0) st = .ok x st := fun _ _ _ _ => rfl
    have e8 : ∀ (x y z : D) st, fIx (.tup [x, y, z]) (.int 1) st = .ok y st := fun _ _ _ _ => rfl
    simp [Ent.D, accD, s_names_rightly, m_names_rightly, startE, e4, e5, e6, hn, e2, e7, e8, h2]
theorem acc_ok (es : List Ent) (h : Valid es) (hl : es.length ≤ 100000) (st : Sto) : s_is_account [accD es] st = .ok (.bl true) st := by
  have a1 : ∀ env : SEnv, lc1 false (.nm 1) (eC (.bl true)) (eCall s_has_entry_form (aCons (eVar 1) aNil)) [1] [.val (accD es), .un] (.ok (es.map Ent.D) st) = .ok ((es.map Ent.D).map fun x => .bl true) st := fun env => lc1_p (by simpa using hl) fun x hx => by
    obtain ⟨e, he, rfl⟩ := List.mem_map.mp hx
    simp [wipeE, form_e e (h.s1 e he)]
  have a2 : ∀ env : SEnv, lc1 false (.nm 1) (eC (.bl true)) (eCall s_names_rightly (aCons (eVar 0) (aCons (eVar 1) aNil))) [1] [.val (accD es), .un] (.ok (es.map Ent.D) st) = .ok ((es.map Ent.D).map fun x => .bl true) st := fun env => lc1_p (by simpa using hl) fun x hx => by
    obtain ⟨e, he, rfl⟩ := List.mem_map.mp hx
    simp [wipeE, nr_e es e (h.nm e he) hl]
  have b1 : fAll (.lst ((es.map Ent.D).map fun x => .bl true)) st = .ok (.bl true) st := by
    rw [fAll_map (b := fun _ => true)]; simp
  simp only [accD] at a1 a2
  generalize hq : ((es.map Ent.D).map fun x => D.bl true) = bs at a1 a2 b1
  simp [s_is_account, m_is_account, startE, accD, fIsB, bty, isB, seqD, a1 [], a2 [], b1]
theorem need_acc (es : List Ent) (h : Valid es) (hl : es.length ≤ 100000) (st : Sto) : s_need_account [accD es] st = .ok .non st := by
  simp [s_need_account, m_need_account, startE, acc_ok es h hl]

/-! ### draws -/
theorem bag1 (cell : Int) (st : Sto) : ∃ st', s__law_bag_of [.int cell] st = .ok (.obj st.length) st' ∧ Jar st.length (10 ^ 12) st' ∧ Fr st.length st st' := by
  have e1 : ∀ st, fPow (.int 10) (.int 18) st = .ok (.int (10 ^ 18)) st := fun st => fPow_i (by decide) (by decide) (by decide)
  have e2 : ∀ st, fPow (.int 10) (.int 24) st = .ok (.int (10 ^ 24)) st := fun st => fPow_i (by decide) (by decide) (by decide)
  have e3 : ∀ st, fMod (.int cell) (.int (10 ^ 24 + 7)) st = .ok (.int (cell % (10 ^ 24 + 7))) st := fun st => fMod_i (by decide)
  have b1 : 0 ≤ cell % (10 ^ 24 + 7) := Int.emod_nonneg _ (by decide)
  have b2 : cell % (10 ^ 24 + 7) < 10 ^ 24 + 7 := Int.emod_lt_of_pos _ (by decide)
  have fin : ∀ a : Int, Jar st.length (10 ^ 12) (st ++ [.lst [.int a, .int (cell % (10 ^ 24 + 7)), .int 0]]) ∧ Fr st.length st (st ++ [.lst [.int a, .int (cell % (10 ^ 24 + 7)), .int 0]]) := fun a => by
    refine ⟨⟨a, _, 0, by simp, b1, by omega, by decide, by decide⟩, by simp, fun i hi hl => ?_⟩
    rw [List.getElem?_append_left hl]
  by_cases h : 10 ^ 18 ≤ cell
  · refine ⟨_, ?_, fin (cell - 10 ^ 18)⟩
    simp [s__law_bag_of, m__law_bag_of, startE, e1, e2, e3, h, noLsts, noLst, -Int.reducePow, -Int.reduceAdd]
  · refine ⟨_, ?_, fin 0⟩
    simp [s__law_bag_of, m__law_bag_of, startE, e1, e2, e3, h, noLsts, noLst, -Int.reducePow, -Int.reduceAdd]
theorem pick_ok {j n : Nat} {st : Sto} {many : Int} (h : Jar j (n + 1) st) (hm : 0 < many) (hb : many ≤ 10 ^ 1000) : ∃ k st', s__law_pick [.obj j, .int many] st = .ok (.int k) st' ∧ 0 ≤ k ∧ k < many ∧ Jar j n st' ∧ Fr j st st' := pick1 h hm (bits_bd (by omega) hb)
theorem some_ok {j n : Nat} {st : Sto} {many : Nat} {far top : Int} (h : Jar j (n + 4 * many) st) (hm : many ≤ 1000) (hf : 0 ≤ far) (hf2 : far ≤ 10 ^ 100) (ht : 1 ≤ top) (ht2 : top ≤ 10 ^ 100) :
    ∃ es st', s__law_some [.obj j, .int many, .int far, .int top] st = .ok (accD es) st' ∧ es.length = many ∧ (∀ e ∈ es, e.draw far top) ∧ Jar j n st' ∧ Fr j st st' := by
  have e0 : ∀ st, fMul (.int 2) (.int far) st = .ok (.int (2 * far)) st := fun st => fMul_i (by decide +kernel) (bits_bd hf (by omega))
  obtain ⟨e, s, h1, es, x5, x6, h2, h3, h4, h5, h6⟩ := forGo_inv (t := Tg.nm 5) (mb := (mSeq (mSet 6 (eBin fIx (eLst (aCons (eC (.str "bill")) (aCons (eC (.str "pay")) aNil))) (eCall s__law_pick (aCons (eVar 0) (aCons (eC (.int 2)) aNil))))) (mSeq (mApp 4 (eTup (aCons (eVar 6) (aCons (eBin fSub (eCall s__law_pick (aCons (eVar 0) (aCons (eBin fAdd (eBin fMul (eC (.int 2)) (eVar 2)) (eC (.int 1))) aNil))) (eVar 2)) (aCons (eBin fAdd (eC (.int 1)) (eCall s__law_pick (aCons (eVar 0) (aCons (eVar 3) aNil)))) aNil))))) (mIf (eBin fEq (eCall s__law_pick (aCons (eVar 0) (aCons (eC (.int 12)) aNil))) (eC (.int 7))) (mPut 4 (eVar 5) (eTup (aCons (eC (.str "struck")) aNil))) mNext))))
    (fun i env st' => ∃ (es : List Ent) (x5 x6 : SV), env = [.val (.obj j), .val (.int many), .val (.int far), .val (.int top), .own (es.map Ent.D), x5, x6] ∧ es.length = i ∧ (∀ e ∈ es, e.draw far top) ∧ Jar j (n + 4 * (many - i)) st' ∧ Fr j st st')
    (rngD 0 many) [.val (.obj j), .val (.int many), .val (.int far), .val (.int top), .own [], .un, .un] st ⟨[], .un, .un, rfl, rfl, by simp, h, Fr.refl⟩ (by
      rintro i x env st0 hx ⟨es, x5, x6, rfl, hl, hd, hj, hfr⟩
      obtain ⟨hi, rfl⟩ := rngD_get hx
      refine ⟨_, rfl, ?_⟩
      obtain ⟨k1, s1, p1, q1, q1', j1, f1⟩ := pick_ok (n := n + 4 * (many - (i + 1)) + 3) (many := 2) (hj.mono (by omega)) (by decide) (by decide +kernel)
      obtain ⟨k2, s2, p2, q2, q2', j2, f2⟩ := pick_ok (n := n + 4 * (many - (i + 1)) + 2) (many := 2 * far + 1) j1 (by omega) (by omega)
      obtain ⟨k3, s3, p3, q3, q3', j3, f3⟩ := pick_ok (n := n + 4 * (many - (i + 1)) + 1) (many := top) j2 (by omega) (by omega)
      obtain ⟨k4, s4, p4, q4, q4', j4, f4⟩ := pick_ok (n := n + 4 * (many - (i + 1))) (many := 12) j3 (by decide) (by decide +kernel)
      have hsz : es.length + 1 ≤ 100000 := by omega
      have hk1 : k1 = 0 ∨ k1 = 1 := by omega
      have fr := (((hfr.trans f1).trans f2).trans f3).trans f4
      have ix : L2.ixN (es.length + 1) (es.length : Int) = some es.length := ixN_nat (by omega)
      rcases hk1 with rfl | rfl
      · by_cases h7 : k4 = 7
        · refine ⟨_, s4, .inl ?_, es ++ [.str], .val (.int i), .val (.str "bill"), rfl, by simp [hl], fun e he => ?_, j4, fr⟩
          · subst hl
            simp [p1, p2, p3, p4, e0, fIx, lsOf, L2.atI, L2.ixN, hsz, h7, Ent.D]
            simp [show ((es.length : Int) < es.length + 1) by omega, List.set_append]
          · rcases List.mem_append.mp he with he | he
            · exact hd e he
            · simp at he; subst he; trivial
        · refine ⟨_, s4, .inl ?_, es ++ [.bill (k2 - far) (1 + k3)], .val (.int i), .val (.str "bill"), rfl, by simp [hl], fun e he => ?_, j4, fr⟩
          · simp [p1, p2, p3, p4, e0, fIx, lsOf, L2.atI, L2.ixN, hsz, h7, Ent.D]
          · rcases List.mem_append.mp he with he | he
            · exact hd e he
            · simp at he; subst he; exact ⟨by omega, by omega, by omega, by omega⟩
      · by_cases h7 : k4 = 7
        · refine ⟨_, s4, .inl ?_, es ++ [.str], .val (.int i), .val (.str "pay"), rfl, by simp [hl], fun e he => ?_, j4, fr⟩
          · subst hl
            simp [p1, p2, p3, p4, e0, fIx, lsOf, L2.atI, L2.ixN, hsz, h7, Ent.D]
            simp [show ((es.length : Int) < es.length + 1) by omega, List.set_append]
          · rcases List.mem_append.mp he with he | he
            · exact hd e he
            · simp at he; subst he; trivial
        · refine ⟨_, s4, .inl ?_, es ++ [.pay (k2 - far) (1 + k3)], .val (.int i), .val (.str "pay"), rfl, by simp [hl], fun e he => ?_, j4, fr⟩
          · simp [p1, p2, p3, p4, e0, fIx, lsOf, L2.atI, L2.ixN, hsz, h7, Ent.D]
          · rcases List.mem_append.mp he with he | he
            · exact hd e he
            · simp at he; subst he; exact ⟨by omega, by omega, by omega, by omega⟩)
  subst h2
  refine ⟨es, s, ?_, by simpa using h3, h4, by simpa [h3] using h5, h6⟩
  have r := r11_ok (st := st) (k := (many : Int)) (by omega)
  simp [s__law_some, m__law_some, startE, r, -ps_seq]
  simp only [ps_seq, ps_own_, pv_nlst, pv_nil, nlst1_ok]
  simp [r, h1, fTupOf, lsOf, accD]

theorem ix_e0 (e : Ent) (st : Sto) : fIx e.D (.int 0) st = .ok (.str (match e with | .str => "struck" | .bill _ _ => "bill" | .pay _ _ => "pay" | .nam _ _ _ => "named")) st := by cases e <;> rfl
theorem height_ok {j n : Nat} {st : Sto} (h : Jar j (n + 1) st) : ∃ k st', s__law_height [.obj j] st = .ok (.int k) st' ∧ 1 ≤ k ∧ k ≤ 10 ^ 30 ∧ Jar j n st' ∧ Fr j st st' := by
  obtain ⟨k1, s1, p1, q1, q1', j1, f1⟩ := pick_ok (many := 4) h (by decide) (by decide +kernel)
  have e1 : ∀ st, fPow (.int 10) (.int 28) st = .ok (.int (10 ^ 28)) st := fun st => fPow_i (by decide) (by decide) (by decide)
  have hk1 : k1 = 0 ∨ k1 = 1 ∨ k1 = 2 ∨ k1 = 3 := by omega
  rcases hk1 with rfl | rfl | rfl | rfl
  · exact ⟨2, s1, by simp [s__law_height, m__law_height, startE, e1, p1, fIx, lsOf, L2.atI, L2.ixN, -Int.reducePow], by decide, by decide, j1, f1⟩
  · exact ⟨4, s1, by simp [s__law_height, m__law_height, startE, e1, p1, fIx, lsOf, L2.atI, L2.ixN, -Int.reducePow], by decide, by decide, j1, f1⟩
  · exact ⟨12, s1, by simp [s__law_height, m__law_height, startE, e1, p1, fIx, lsOf, L2.atI, L2.ixN, -Int.reducePow], by decide, by decide, j1, f1⟩
  · exact ⟨10 ^ 28, s1, by simp [s__law_height, m__law_height, startE, e1, p1, fIx, lsOf, L2.atI, L2.ixN, -Int.reducePow], by decide, by decide, j1, f1⟩
theorem reach_ok {j n : Nat} {st : Sto} (h : Jar j (n + 1) st) : ∃ k st', s__law_reach [.obj j] st = .ok (.int k) st' ∧ 0 ≤ k ∧ k ≤ 10 ^ 6 ∧ Jar j n st' ∧ Fr j st st' := by
  obtain ⟨k1, s1, p1, q1, q1', j1, f1⟩ := pick_ok (many := 4) h (by decide) (by decide +kernel)
  have hk1 : k1 = 0 ∨ k1 = 1 ∨ k1 = 2 ∨ k1 = 3 := by omega
  rcases hk1 with rfl | rfl | rfl | rfl
  · exact ⟨1, s1, by simp [s__law_reach, m__law_reach, startE, p1, fIx, lsOf, L2.atI, L2.ixN], by decide, by decide, j1, f1⟩
  · exact ⟨3, s1, by simp [s__law_reach, m__law_reach, startE, p1, fIx, lsOf, L2.atI, L2.ixN], by decide, by decide, j1, f1⟩
  · exact ⟨20, s1, by simp [s__law_reach, m__law_reach, startE, p1, fIx, lsOf, L2.atI, L2.ixN], by decide, by decide, j1, f1⟩
  · exact ⟨999000, s1, by simp [s__law_reach, m__law_reach, startE, p1, fIx, lsOf, L2.atI, L2.ixN], by decide, by decide, j1, f1⟩
theorem names_ok {j n : Nat} {st : Sto} {es0 : List Ent} {far top : Int} (h : Jar j (n + 2 * es0.length) st) (hm : es0.length ≤ 1000) (hA : Acc far top es0) :
    ∃ es st', s__law_with_names [.obj j, accD es0] st = .ok (accD es) st' ∧ es.length = es0.length ∧ Acc far top es ∧ Jar j n st' ∧ Fr j st st' := by
  obtain ⟨m, hmm⟩ : ∃ m, m = es0.length := ⟨_, rfl⟩
  rw [← hmm] at h hm
  obtain ⟨e, s, h1, es, x3, x4, x5, h2, h3, h4, h5, h6⟩ := forGo_inv (t := Tg.nm 3) (mb := (mIf (eAnd (eBin fEq (eBin fIx (eBin fIx (eOwn 2) (eVar 3)) (eC (.int 0))) (eC (.str "pay"))) (eBin fEq (eCall s__law_pick (aCons (eVar 0) (aCons (eC (.int 2)) aNil))) (eC (.int 1)))) (mSeq (mSetN 4 (lcM true (itR1 (eUn fLen (eOwn 2))) (Tg.nm 5) (eAnd (eBin fEq (eBin fIx (eBin fIx (eOwn 2) (eVar 5)) (eC (.int 0))) (eC (.str "bill"))) (eBin fLe (eBin fIx (eBin fIx (eOwn 2) (eVar 5)) (eC (.int 1))) (eBin fIx (eBin fIx (eOwn 2) (eVar 3)) (eC (.int 1))))) (eVar 5) [5])) (mIf (eBin fNe (eVar 4) (eLst aNil)) (mPutU 2 (eVar 3) (eTup (aCons (eC (.str "named")) (aCons (eBin fIx (eBin fIx (eOwn 2) (eVar 3)) (eC (.int 1))) (aCons (eBin fIx (eBin fIx (eOwn 2) (eVar 3)) (eC (.int 2))) (aCons (eBin fIx (eVar 4) (eCall s__law_pick (aCons (eVar 0) (aCons (eUn fLen (eVar 4)) aNil)))) aNil)))))) mNext)) mNext))
    (fun i env st' => ∃ (es : List Ent) (x3 x4 x5 : SV), env = [.val (.obj j), .val (accD es0), .own (es.map Ent.D), x3, x4, x5] ∧ es.length = m ∧ Acc far top es ∧ Jar j (n + 2 * (m - i)) st' ∧ Fr j st st')
    (rngD 0 m) [.val (.obj j), .val (accD es0), .own (es0.map Ent.D), .un, .un, .un] st ⟨es0, .un, .un, .un, rfl, hmm.symm, hA, h, Fr.refl⟩ (by
      rintro i x env st0 hx ⟨es, x3, x4, x5, rfl, hl, hd, hj, hfr⟩
      obtain ⟨hi, rfl⟩ := rngD_get hx
      refine ⟨_, rfl, ?_⟩
      obtain ⟨e, he⟩ : ∃ e, es[i]? = some e := ⟨es[i], List.getElem?_eq_getElem (by omega)⟩
      have ixe : ∀ (k : Nat) (e : Ent) (st : Sto), es[k]? = some e → fIx (.lst (es.map Ent.D)) (.int (k : Int)) st = .ok e.D st := fun k e st he => fIx_l (atI_nat (by rw [List.getElem?_map, he]; rfl))
      have stay : ∀ e, es[i]? = some e → (∀ d s, e ≠ .pay d s) → ∃ env2 st2, (mIf (eAnd (eBin fEq (eBin fIx (eBin fIx (eOwn 2) (eVar 3)) (eC (.int 0))) (eC (.str "pay"))) (eBin fEq (eCall s__law_pick (aCons (eVar 0) (aCons (eC (.int 2)) aNil))) (eC (.int 1)))) (mSeq (mSetN 4 (lcM true (itR1 (eUn fLen (eOwn 2))) (Tg.nm 5) (eAnd (eBin fEq (eBin fIx (eBin fIx (eOwn 2) (eVar 5)) (eC (.int 0))) (eC (.str "bill"))) (eBin fLe (eBin fIx (eBin fIx (eOwn 2) (eVar 5)) (eC (.int 1))) (eBin fIx (eBin fIx (eOwn 2) (eVar 3)) (eC (.int 1))))) (eVar 5) [5])) (mIf (eBin fNe (eVar 4) (eLst aNil)) (mPutU 2 (eVar 3) (eTup (aCons (eC (.str "named")) (aCons (eBin fIx (eBin fIx (eOwn 2) (eVar 3)) (eC (.int 1))) (aCons (eBin fIx (eBin fIx (eOwn 2) (eVar 3)) (eC (.int 2))) (aCons (eBin fIx (eVar 4) (eCall s__law_pick (aCons (eVar 0) (aCons (eUn fLen (eVar 4)) aNil)))) aNil)))))) mNext)) mNext)
          ([SV.val (D.obj j), SV.val (accD es0), SV.own (es.map Ent.D), x3, x4, x5].set 3 (SV.val (.int i))) st0 = .nx env2 st2 ∧ ∃ (es : List Ent) (x3 x4 x5 : SV), env2 = [.val (.obj j), .val (accD es0), .own (es.map Ent.D), x3, x4, x5] ∧ es.length = m ∧ Acc far top es ∧ Jar j (n + 2 * (m - (i + 1))) st2 ∧ Fr j st st2 := fun e he hne => by
        refine ⟨_, st0, ?_, es, .val (.int i), x4, x5, rfl, hl, hd, hj.mono (by omega), hfr⟩
        cases e with
        | pay d s => exact absurd rfl (hne d s)
        | str => simp [ixe i _ _ he, ix_e0, w_sp]
        | bill d s => simp [ixe i _ _ he, ix_e0, w_bp]
        | nam d s k => simp [ixe i _ _ he, ix_e0, w_np]
      cases e with
      | pay d s =>
        obtain ⟨k1, s1, p1, q1, q1', j1, f1⟩ := pick_ok (n := n + 2 * (m - (i + 1)) + 1) (many := 2) (hj.mono (by omega)) (by decide) (by decide +kernel)
        by_cases h7 : k1 = 1
        · subst h7
          have hr : ∀ st, r11 (.ok (.int (es.length : Int)) st) = .ok (rngD 0 es.length) st := fun st => by
            have := r11_ok (st := st) (k := (es.length : Int)) (by omega)
            simpa using this
          let p : D → Bool := fun x => match x with
            | .int k => (match es[k.toNat]? with
              | some (.bill d' s') => decide (d' ≤ d)
              | _ => false)
            | _ => false
          have hlc := lc1_pfU (i := 5) (mt := (eAnd (eBin fEq (eBin fIx (eBin fIx (eOwn 2) (eVar 5)) (eC (.int 0))) (eC (.str "bill"))) (eBin fLe (eBin fIx (eBin fIx (eOwn 2) (eVar 5)) (eC (.int 1))) (eBin fIx (eBin fIx (eOwn 2) (eVar 3)) (eC (.int 1)))))) (me := eVar 5) (p := p) (f := fun x => x) (vs := [5]) (env := [.val (.obj j), .val (accD es0), .own (es.map Ent.D), .val (.int i), x4, x5]) (st := s1) (ds := rngD 0 es.length) (by simp; omega)
            (fun x hx => by obtain ⟨k, _, rfl⟩ := rngD_mem hx; rfl)
            (fun x hx => by
              obtain ⟨k, hk, rfl⟩ := rngD_mem hx
              obtain ⟨e2, he2⟩ : ∃ e2, es[k]? = some e2 := ⟨es[k], List.getElem?_eq_getElem hk⟩
              have i1 : ∀ (a b : Int) (st : Sto), fIx (Ent.D (.bill a b)) (.int 1) st = .ok (.int a) st := fun _ _ _ => rfl
              have i2 : ∀ (a b : Int) (st : Sto), fIx (Ent.D (.pay a b)) (.int 1) st = .ok (.int a) st := fun _ _ _ => rfl
              cases e2 with
              | bill d' s' => simp [wipeE, ixe k _ _ he2, ixe i _ _ he, ix_e0, p, he2, i1, i2]
              | str => simp [wipeE, ixe k _ _ he2, ix_e0, w_sb, p, he2]
              | pay d' s' => simp [wipeE, ixe k _ _ he2, ix_e0, w_pb, p, he2]
              | nam d' s' k' => simp [wipeE, ixe k _ _ he2, ix_e0, w_nb, p, he2])
            (fun x hx _ => by simp [wipeE])
          rw [List.map_id'] at hlc
          generalize hab : (rngD 0 es.length).filter p = able at hlc
          have hmem : ∀ x ∈ able, ∃ (k : Nat) (d' s' : Int), x = .int k ∧ es[k]? = some (.bill d' s') ∧ d' ≤ d := fun x hx => by
            rw [← hab] at hx
            obtain ⟨hx1, hx2⟩ := List.mem_filter.mp hx
            obtain ⟨k, hk, rfl⟩ := rngD_mem hx1
            simp only [p, Int.toNat_natCast] at hx2
            split at hx2
            · rename_i d' s' e; exact ⟨k, d', s', rfl, e, of_decide_eq_true hx2⟩
            · cases hx2
          have hno : noLsts able = true := noLsts_of fun x hx => by obtain ⟨k, _, _, rfl, _⟩ := hmem x hx; rfl
          have hok : okDs able 60 = true := okDs_all fun x hx => by obtain ⟨k, _, _, rfl, _⟩ := hmem x hx; rfl
          have ip0 : ∀ (st : Sto), fIx (Ent.D (.pay d s)) (.int 1) st = .ok (.int d) st := fun _ => rfl
          have ip1 : ∀ (st : Sto), fIx (Ent.D (.pay d s)) (.int 2) st = .ok (.int s) st := fun _ => rfl
          cases able with
          | nil =>
            refine ⟨_, s1, .inl ?_, es, .val (.int i), .val (.lst []), x5, rfl, hl, hd, j1.mono (by omega), hfr.trans f1⟩
            have en : fNe (.lst []) (.lst []) s1 = .ok (.bl false) s1 := by rw [fNe_lnil rfl]; rfl
            simp [ixe i _ _ he, ix_e0, p1, hr, hlc, noLsts, en]
          | cons a as =>
            have hlen : (0 : Int) < ((a :: as).length : Int) := by simp
            have hlen2 : (a :: as).length ≤ 1000 := by
              rw [← hab]
              have := List.length_filter_le p (rngD 0 es.length)
              simp only [rngD_len] at this
              omega
            obtain ⟨k2, s2, p2, q2, q2', j2, f2⟩ := pick_ok (n := n + 2 * (m - (i + 1))) (many := ((a :: as).length : Int)) j1 hlen (Int.le_trans (show ((a :: as).length : Int) ≤ 1000 by omega) (by decide +kernel))
            obtain ⟨t, rfl⟩ := Int.eq_ofNat_of_zero_le q2
            have ht : t < (a :: as).length := by omega
            obtain ⟨k, d', s', hk1, hk2, hk3⟩ := hmem _ (List.getElem_mem ht)
            have ixt : ∀ st, fIx (.lst (a :: as)) (.int (t : Int)) st = .ok (.int k) st := fun st => fIx_l (atI_nat (by rw [List.getElem?_eq_getElem ht, hk1]))
            have ixn : L2.ixN es.length (i : Int) = some i := ixN_nat (by omega)
            have sEq : (es.map Ent.D).set i (.tup [.str "named", .int d, .int s, .int k]) = (es.set i (.nam d s k)).map Ent.D := by rw [List.map_set]; rfl
            refine ⟨_, s2, .inl ?_, es.set i (.nam d s k), .val (.int i), .val (.lst (a :: as)), x5, rfl, by simpa using hl, hd.name he hk2 hk3, j2, (hfr.trans f1).trans f2⟩
            have e3 : fNe (.lst (a :: as)) (.lst []) s1 = .ok (.bl true) s1 := by rw [fNe_lnil hok]; rfl
            have p2' : s__law_pick [D.obj j, D.int ((as.length : Int) + 1)] s1 = R.ok (D.int (t : Int)) s2 := by simpa using p2
            have hno2 : noLst a = true ∧ noLsts as = true := by simpa [noLsts] using hno
            simp [ixe i _ _ he, ix_e0, p1, hr, hlc, hno2, e3, ip0, ip1, p2', ixt, noLst, noLsts, ixn, ← sEq]
        · refine ⟨_, s1, .inl ?_, es, .val (.int i), x4, x5, rfl, hl, hd, j1.mono (by omega), hfr.trans f1⟩
          simp [ixe i _ _ he, ix_e0, p1, h7]
      | str => obtain ⟨a, b, c, d⟩ := stay _ he (fun _ _ z => by cases z); exact ⟨a, b, .inl c, d⟩
      | bill d s => obtain ⟨a, b, c, d⟩ := stay _ he (fun _ _ z => by cases z); exact ⟨a, b, .inl c, d⟩
      | nam d s k => obtain ⟨a, b, c, d⟩ := stay _ he (fun _ _ z => by cases z); exact ⟨a, b, .inl c, d⟩)
  subst h2
  refine ⟨es, s, ?_, by rw [h3, hmm], h4, by simpa [h3] using h5, h6⟩
  have r := r11_ok (st := st) (k := (m : Int)) (by omega)
  have e1 : ∀ (es : List Ent) (st : Sto), nof1 (.ok (accD es) st) = .ok (es.map Ent.D) st := fun _ _ => rfl
  rw [hmm] at r h1
  simp [s__law_with_names, m__law_with_names, startE, e1, r, h1, fTupOf, lsOf]
  rfl
theorem any_ok {j n : Nat} {st : Sto} {many : Int} (h : Jar j (n + 7 * 1000) st) (hm : 0 < many) (hm2 : many ≤ 1000) : ∃ es st', s__law_any [.obj j, .int many] st = .ok (accD es) st' ∧ (es.length : Int) < many ∧ Acc (10 ^ 6) (10 ^ 30) es ∧ Jar j n st' ∧ Fr j st st' := by
  obtain ⟨k1, s1, p1, q1, q1', j1, f1⟩ := pick_ok (n := n + 6 * 1000 + 2) (many := many) (h.mono (by omega)) hm (Int.le_trans hm2 (by decide +kernel))
  obtain ⟨k2, s2, p2, q2, q2', j2, f2⟩ := reach_ok (n := n + 6 * 1000 + 1) j1
  obtain ⟨k3, s3, p3, q3, q3', j3, f3⟩ := height_ok (n := n + 6 * 1000) j2
  obtain ⟨m, rfl⟩ := Int.eq_ofNat_of_zero_le q1
  obtain ⟨es0, s4, p4, l4, d4, j4, f4⟩ := some_ok (n := n + 2 * 1000) (many := m) (far := k2) (top := k3) (j3.mono (by omega)) (by omega) q2 (by omega) q3 (by omega)
  have a4 : Acc (10 ^ 6) (10 ^ 30) es0 := Acc.of_draw fun e he => by
    have := d4 e he
    cases e <;> simp only [Ent.draw] at this ⊢ <;> omega
  obtain ⟨es, s5, p5, l5, a5, j5, f5⟩ := names_ok (n := n) (es0 := es0) (j4.mono (by omega)) (by omega) a4
  refine ⟨es, s5, ?_, by omega, a5, j5, (((f1.trans f2).trans f3).trans f4).trans f5⟩
  simp [s__law_any, m__law_any, startE, p1, p2, p3, p4, p5]

/-! ### books -/
theorem init_ok (es : List Ent) (h : Valid es) (hl : es.length ≤ 100000) (n : Nat) (st : Sto) (hn : st[n]? = some (.ins 6 [])) : s_Book___init__ (.obj n :: es.map Ent.D) st = .ok .non (st.set n (.ins 6 [("entries", accD es)])) := by
  have e1 := need_acc es h hl
  simp only [accD] at e1
  have hno : noLsts (es.map Ent.D) = true := noLsts_of fun d hd => by
    obtain ⟨e, _, rfl⟩ := List.mem_map.mp hd
    cases e <;> rfl
  rw [s_Book___init__, pf_fnS (by simp) (by simpa using hl)]
  simp [m_Book___init__, startE, e1, fldAt, insOf_ok hn, noLst, hno, putFD, Ft_entries, ftab]
  rfl
theorem make_book (es : List Ent) (h : Valid es) (hl : es.length ≤ 100000) (st : Sto) : fMake 6 s_Book___init__ (es.map Ent.D) st = .ok (.obj st.length) (st ++ [.ins 6 [("entries", accD es)]]) := by
  refine make_ok ?_
  refine (init_ok es h hl st.length _ (by simp)).trans ?_
  simp [List.set_append]
theorem of_ok (es : List Ent) (h : Valid es) (hl : es.length ≤ 100000) (st : Sto) : s_Book_of [accD es] st = .ok (.obj st.length) (st ++ [.ins 6 [("entries", accD es)]]) := by
  have e2 : ∀ st, star1 (.ok (accD es) st) = .ok (es.map Ent.D) st := fun _ => rfl
  simp [s_Book_of, m_Book_of, startE, need_acc es h hl, e2, make_book es h hl]
theorem volume_ok (es : List Ent) (h : Valid es) (hl : es.length ≤ 1000) (st : Sto) : s__law_volume [accD es] st = .ok (.obj st.length) (st ++ [.ins 6 [("entries", accD es)]]) := by
  have hl2 : es.length ≤ 100000 := by omega
  have e2 := make_book es h hl2 st
  have e3 := of_ok es h hl2 st
  have el : ∀ (es : List Ent) st, fLen (accD es) st = .ok (.int es.length) st := fun es st => by simp [accD]
  by_cases c0 : es.length = 0
  · obtain rfl : es = [] := List.eq_nil_of_length_eq_zero c0
    simp only [List.map_nil] at e2
    simp [s__law_volume, m__law_volume, startE, el, e2]
  by_cases c1 : es.length = 1
  · match es, c1 with
    | [a], _ =>
      simp only [List.map_nil, List.map_cons] at e2
      have i0 : ∀ st, fIx (accD [a]) (.int 0) st = .ok a.D st := fun _ => rfl
      simp [s__law_volume, m__law_volume, startE, el, i0, e2]
  by_cases c3 : es.length = 3
  · match es, c3 with
    | [a, b, c], _ =>
      simp only [List.map_nil, List.map_cons] at e2
      have i0 : ∀ st, fIx (accD [a, b, c]) (.int 0) st = .ok a.D st := fun _ => rfl
      have i1 : ∀ st, fIx (accD [a, b, c]) (.int 1) st = .ok b.D st := fun _ => rfl
      have i2 : ∀ st, fIx (accD [a, b, c]) (.int 2) st = .ok c.D st := fun _ => rfl
      simp [s__law_volume, m__law_volume, startE, el, i0, i1, i2, e2]
  by_cases c6 : es.length = 6
  · match es, c6 with
    | [a, b, c, d, e, f], _ =>
      simp only [List.map_nil, List.map_cons] at e2
      have i0 : ∀ st, fIx (accD [a, b, c, d, e, f]) (.int 0) st = .ok a.D st := fun _ => rfl
      have i1 : ∀ st, fIx (accD [a, b, c, d, e, f]) (.int 1) st = .ok b.D st := fun _ => rfl
      have i2 : ∀ st, fIx (accD [a, b, c, d, e, f]) (.int 2) st = .ok c.D st := fun _ => rfl
      have i3 : ∀ st, fIx (accD [a, b, c, d, e, f]) (.int 3) st = .ok d.D st := fun _ => rfl
      have i4 : ∀ st, fIx (accD [a, b, c, d, e, f]) (.int 4) st = .ok e.D st := fun _ => rfl
      have i5 : ∀ st, fIx (accD [a, b, c, d, e, f]) (.int 5) st = .ok f.D st := fun _ => rfl
      simp [s__law_volume, m__law_volume, startE, el, i0, i1, i2, i3, i4, i5, e2]
  by_cases c10 : es.length = 10
  · match es, c10 with
    | [a, b, c, d, e, f, g1, h1, i, j], _ =>
      simp only [List.map_nil, List.map_cons] at e2
      have i0 : ∀ st, fIx (accD [a, b, c, d, e, f, g1, h1, i, j]) (.int 0) st = .ok a.D st := fun _ => rfl
      have i1 : ∀ st, fIx (accD [a, b, c, d, e, f, g1, h1, i, j]) (.int 1) st = .ok b.D st := fun _ => rfl
      have i2 : ∀ st, fIx (accD [a, b, c, d, e, f, g1, h1, i, j]) (.int 2) st = .ok c.D st := fun _ => rfl
      have i3 : ∀ st, fIx (accD [a, b, c, d, e, f, g1, h1, i, j]) (.int 3) st = .ok d.D st := fun _ => rfl
      have i4 : ∀ st, fIx (accD [a, b, c, d, e, f, g1, h1, i, j]) (.int 4) st = .ok e.D st := fun _ => rfl
      have i5 : ∀ st, fIx (accD [a, b, c, d, e, f, g1, h1, i, j]) (.int 5) st = .ok f.D st := fun _ => rfl
      have i6 : ∀ st, fIx (accD [a, b, c, d, e, f, g1, h1, i, j]) (.int 6) st = .ok g1.D st := fun _ => rfl
      have i7 : ∀ st, fIx (accD [a, b, c, d, e, f, g1, h1, i, j]) (.int 7) st = .ok h1.D st := fun _ => rfl
      have i8 : ∀ st, fIx (accD [a, b, c, d, e, f, g1, h1, i, j]) (.int 8) st = .ok i.D st := fun _ => rfl
      have i9 : ∀ st, fIx (accD [a, b, c, d, e, f, g1, h1, i, j]) (.int 9) st = .ok j.D st := fun _ => rfl
      simp [s__law_volume, m__law_volume, startE, el, i0, i1, i2, i3, i4, i5, i6, i7, i8, i9, e2]
  have d0 : decide ((es.length : Int) = 0) = false := decide_eq_false (by omega)
  have d1 : decide ((es.length : Int) = 1) = false := decide_eq_false (by omega)
  have d3 : decide ((es.length : Int) = 3) = false := decide_eq_false (by omega)
  have d6 : decide ((es.length : Int) = 6) = false := decide_eq_false (by omega)
  have d10 : decide ((es.length : Int) = 10) = false := decide_eq_false (by omega)
  simp only [s__law_volume, m__law_volume]
  simp [startE, el, e3, d0, d1, d3, d6, d10, -Int.natCast_eq_zero, c0, c1, c3, c6, c10]

/-! ### the line -/
theorem r11_acc {es : List Ent} (hl : es.length ≤ 1000) (st : Sto) : r11 (.ok (.int (es.length : Int)) st) = .ok ((List.range es.length).map natD) st := by
  rw [r11_ok (by omega), ← rng_nat]; simp
theorem len_acc (es : List Ent) (st : Sto) : fLen (accD es) st = .ok (.int es.length) st := by simp [accD]
theorem line_of_ok (es : List Ent) (hl : es.length ≤ 1000) (st : Sto) : s_line_of [accD es] st = .ok (.lst ((lineT es).map natD)) st := by
  simp [s_line_of, m_line_of, startE, len_acc, r11_acc hl]
  generalize hX : lc1 _ _ _ _ _ _ _ = X
  have h := lc_gen natD (List.range es.length) (fun i => (at_ es i).live) natD hX (by simp; omega) (by simp)
    (fun i hi => by
      have hi := List.mem_range.mp hi
      simp [wipeE, ix_accN hi, ix_0, word_str])
    (fun i hi _ => by simp [wipeE])
  subst h
  have e := sortLam_acc es st
  unfold idxT at e
  simp [accD, e]
theorem along_ok (es : List Ent) (hl : es.length ≤ 1000) (st : Sto) : s__law_along [accD es] st = .ok (.lst ((lineT es).map natD)) st := by
  simp [s__law_along, m__law_along, startE, len_acc, r11_acc hl]
  generalize hX : lc1 _ _ _ _ _ _ _ = X
  have h := lc_gen natD (List.range es.length) (fun i => (at_ es i).live) (fun i => .tup [.int (at_ es i).day, natD i]) hX (by simp; omega) (by simp)
    (fun i hi => by
      have hi := List.mem_range.mp hi
      simp [wipeE, ix_accN hi, ix_0, word_str])
    (fun i hi h => by
      have hi := List.mem_range.mp hi
      simp [wipeE, ix_accN hi, ix_1 h])
  subst h
  have e := along_acc es st
  unfold idxT at e
  simp [e]
  generalize hX : lc1 _ _ _ _ _ _ _ = X
  have hn : (keysT es).length ≤ es.length := by
    unfold keysT idxT
    rw [List.length_map]
    exact Nat.le_trans (List.length_filter_le _ _) (by simp)
  have h := lc_gen2 (fun k : Int × Nat => .int k.1) (fun k => natD k.2) ((keysT es).mergeSort leK) (fun _ => true) (fun k => natD k.2) hX (by rw [List.length_mergeSort]; omega) (by simp) (fun _ _ => by simp) (fun k _ _ => by simp [wipeE])
  subst h
  rw [List.filter_eq_self.mpr (fun _ _ => rfl)]
  simp [lineT, natD]

/-! ### the program's layings -/
theorem c_on : (("oldest" : Str) = "newest") = False := eq_false (by decide)
theorem c_og : (("oldest" : Str) = "greatest") = False := eq_false (by decide)
theorem c_ol : (("oldest" : Str) = "least") = False := eq_false (by decide)
theorem c_no : (("newest" : Str) = "oldest") = False := eq_false (by decide)
theorem c_ng : (("newest" : Str) = "greatest") = False := eq_false (by decide)
theorem c_nl : (("newest" : Str) = "least") = False := eq_false (by decide)
theorem c_go : (("greatest" : Str) = "oldest") = False := eq_false (by decide)
theorem c_gn : (("greatest" : Str) = "newest") = False := eq_false (by decide)
theorem c_gl : (("greatest" : Str) = "least") = False := eq_false (by decide)
theorem c_lo : (("least" : Str) = "oldest") = False := eq_false (by decide)
theorem c_ln : (("least" : Str) = "newest") = False := eq_false (by decide)
theorem c_lg : (("least" : Str) = "greatest") = False := eq_false (by decide)
theorem ix_nats {l : List Nat} {i o : Nat} {st : Sto} (h : l[i]? = some o) : fIx (.lst (l.map natD)) (.int (i : Int)) st = .ok (natD o) st := fIx_l (atI_nat (by rw [List.getElem?_map, h]; rfl))
theorem ix_last {l : List Nat} {o : Nat} {st : Sto} (h : l.getLast? = some o) : fIx (.lst (l.map natD)) (.int (-1)) st = .ok (natD o) st := by
  refine fIx_l ?_
  have hl : 0 < l.length := by
    cases l with
    | nil => cases h
    | cons => simp
  unfold L2.atI
  have e : L2.ixN (l.map natD).length (-1) = some (l.length - 1) := by
    unfold L2.ixN
    rw [List.length_map]
    simp
    omega
  rw [e]
  rw [List.getLast?_eq_getElem?] at h
  simp [List.getElem?_map, h]
theorem chosen_ok (ds : List Nat) (rs : Rs) (ch : Ch) (o : Nat) (h : bestT ch rs ds = some o) (hl : ∀ d ∈ ds, d < rs.length) (st : Sto) : s_chosen_bill [.lst (ds.map natD), rsD rs, .str ch.s] st = .ok (natD o) st := by
  cases ds with
  | nil => cases h
  | cons d ds =>
    have i0 : ∀ st, fIx (.lst ((d :: ds).map natD)) (.int 0) st = .ok (natD d) st := fun st => ix_nats (l := d :: ds) (i := 0) rfl
    cases ch with
    | new =>
      have e1 : ∀ st, fIx (.lst ((d :: ds).map natD)) (.int (-1)) st = .ok (natD o) st := fun st => ix_last h
      simp only [List.map_cons] at e1
      simp [s_chosen_bill, m_chosen_bill, startE, Ch.s, e1]
    | old =>
      cases h
      simp only [List.map_cons] at i0
      simp [s_chosen_bill, m_chosen_bill, startE, Ch.s, c_on, i0]
      generalize hX : forGo _ _ _ _ _ = X
      obtain ⟨e, s, rfl, x4, rfl, rfl⟩ := for_inv hX (fun k env s => ∃ x4, env = [.val (.lst ((o :: ds).map natD)), .val (rsD rs), .val (.str "oldest"), .val (natD o), x4] ∧ s = st) ⟨.un, rfl, rfl⟩ (by
        rintro i x env s hx ⟨x4, rfl, rfl⟩
        refine ⟨_, rfl, _, _, .inl ?_, .val x, rfl, rfl⟩
        simp [c_og, c_ol])
      simp
    | gre =>
      cases h
      simp only [List.map_cons] at i0
      simp [s_chosen_bill, m_chosen_bill, startE, Ch.s, c_gn, i0]
      generalize hX : forGo _ _ _ _ _ = X
      obtain ⟨e, s, rfl, x4, rfl, rfl⟩ := for_inv hX (fun k env s => ∃ x4, env = [.val (.lst ((d :: ds).map natD)), .val (rsD rs), .val (.str "greatest"), .val (natD (maxT rs d ((d :: ds).take k))), x4] ∧ s = st) ⟨.un, rfl, rfl⟩ (by
        rintro i x env s hx ⟨x4, rfl, rfl⟩
        rw [← List.map_cons, List.getElem?_map] at hx
        obtain ⟨y, hy, rfl⟩ := Option.map_eq_some_iff.mp hx
        have ly := hl y (List.mem_of_getElem? hy)
        have lm : maxT rs d ((d :: ds).take i) < rs.length := by
          have := maxT_mem rs ((d :: ds).take i) d
          rcases List.mem_cons.mp this with e | e
          · rw [e]; exact hl d (List.mem_cons_self ..)
          · exact hl _ (List.mem_of_mem_take e)
        have et : maxT rs d ((d :: ds).take (i + 1)) = if rt rs (maxT rs d ((d :: ds).take i)) < rt rs y then y else maxT rs d ((d :: ds).take i) := by
          rw [List.take_add_one, hy]
          unfold maxT
          rw [List.foldl_append]; rfl
        refine ⟨_, rfl, _, _, .inl ?_, .val (natD y), rfl, rfl⟩
        rw [et]
        simp [c_gl, ix_rsN ly, ix_rsN lm]
        by_cases q : rt rs (maxT rs d ((d :: ds).take i)) < rt rs y
        · simp [q, c_gl]
        · simp [q, c_gl])
      have e2 : ((d :: ds).take (List.length (natD d :: ds.map natD))) = d :: ds := List.take_of_length_le (by simp)
      rw [e2]
      simp [maxT]
    | lea =>
      cases h
      simp only [List.map_cons] at i0
      simp [s_chosen_bill, m_chosen_bill, startE, Ch.s, c_ln, i0]
      generalize hX : forGo _ _ _ _ _ = X
      obtain ⟨e, s, rfl, x4, rfl, rfl⟩ := for_inv hX (fun k env s => ∃ x4, env = [.val (.lst ((d :: ds).map natD)), .val (rsD rs), .val (.str "least"), .val (natD (minT rs d ((d :: ds).take k))), x4] ∧ s = st) ⟨.un, rfl, rfl⟩ (by
        rintro i x env s hx ⟨x4, rfl, rfl⟩
        rw [← List.map_cons, List.getElem?_map] at hx
        obtain ⟨y, hy, rfl⟩ := Option.map_eq_some_iff.mp hx
        have ly := hl y (List.mem_of_getElem? hy)
        have lm : minT rs d ((d :: ds).take i) < rs.length := by
          have := minT_mem rs ((d :: ds).take i) d
          rcases List.mem_cons.mp this with e | e
          · rw [e]; exact hl d (List.mem_cons_self ..)
          · exact hl _ (List.mem_of_mem_take e)
        have et : minT rs d ((d :: ds).take (i + 1)) = if rt rs y < rt rs (minT rs d ((d :: ds).take i)) then y else minT rs d ((d :: ds).take i) := by
          rw [List.take_add_one, hy]
          unfold minT
          rw [List.foldl_append]; rfl
        refine ⟨_, rfl, _, _, .inl ?_, .val (natD y), rfl, rfl⟩
        rw [et]
        simp [c_lg, ix_rsN ly, ix_rsN lm]
        by_cases q : rt rs y < rt rs (minT rs d ((d :: ds).take i))
        · simp [q, c_lg]
        · simp [q, c_lg])
      have e2 : ((d :: ds).take (List.length (natD d :: ds.map natD))) = d :: ds := List.take_of_length_le (by simp)
      rw [e2]
      simp [minT]

def optD : Option Nat → D
  | none => .non
  | some o => natD o
theorem okD_nat (l : List Nat) (n : Nat) : okDs (l.map natD) n = true := okDs_all fun d hd => by
  obtain ⟨x, _, rfl⟩ := List.mem_map.mp hd
  cases n <;> rfl
theorem fNe_nats (l : List Nat) (st : Sto) : fNe (.lst (l.map natD)) (.lst []) st = .ok (.bl (!l.isEmpty)) st := by
  rw [fNe_lnil (okD_nat l 60)]; simp
theorem ix_3 {d s k : Int} (st : Sto) : fIx (Ent.D (.nam d s k)) (.int 3) st = .ok (.int k) st := rfl
theorem word_nam (e : Ent) : decide (e.word = ("named" : Str)) = match e with | .nam _ _ _ => true | _ => false := by cases e <;> simp [Ent.word, w_sn, w_bn, w_pn]
theorem partner_ok (es : List Ent) (hv : Valid es) (hl : es.length ≤ 1000) (rs : Rs) (hr : rs.length = es.length) (i : Nat) (hi : (at_ es i).live = true) (ch : Ch) (st : Sto) :
    s_partner [accD es, .lst ((lineT es).map natD), rsD rs, natD i, .str ch.s] st = .ok (optD (partT es rs (lineT es) i ch)) st := by
  have hli := at_live hi
  have hL : ∀ o ∈ lineT es, o < rs.length := fun o ho => by rw [hr]; exact at_live (lineT_mem.mp ho)
  have hz := Nat.le_trans (lineT_len es) hl
  have debts : ∀ {X : R (List D)} {e5 : SV}, lc1 false (.nm 8) (eAnd (eBin fEq (eBin fIx (eBin fIx (eVar 0) (eVar 8)) (eC (.int 0))) (eC (.str "bill"))) (eBin fGt (eBin fIx (eVar 2) (eVar 8)) (eC (.int 0)))) (eVar 8) [8] [.val (accD es), .val (.lst ((lineT es).map natD)), .val (rsD rs), .val (natD i), .val (.str ch.s), e5, .un, .un, .un] (.ok ((lineT es).map natD) st) = X → X = .ok ((openBs es rs (lineT es)).map natD) st := fun {X e5} hX => by
    refine lc_gen natD (lineT es) (fun o => (at_ es o).isB && decide (0 < rt rs o)) natD hX (by omega) (by simp) (fun o ho => ?_) (fun o _ _ => by simp [wipeE])
    have l1 := hL o ho
    have l2 : o < es.length := by omega
    simp [wipeE, ix_accN l2, ix_0, word_bill, ix_rsN l1]
    cases (at_ es o).isB <;> simp [ix_rsN l1]
  have bill : ∀ d s, at_ es i = .bill d s → s_partner [accD es, .lst ((lineT es).map natD), rsD rs, natD i, .str ch.s] st = .ok (optD (partT es rs (lineT es) i ch)) st := fun d s e => by
    have ei : ∀ st, fIx (accD es) (natD i) st = .ok (Ent.D (.bill d s)) st := fun st => by rw [ix_accN hli, e]
    simp [s_partner, m_partner, startE, ei, ix_0, Ent.word, w_bn]
    generalize hX : lc1 _ _ _ _ _ _ _ = X
    have h := lc_gen natD (lineT es) (fun o => !(at_ es o).isB && decide (0 < rt rs o)) natD hX (by omega) (by simp) (fun o ho => by
      have l1 := hL o ho
      have l2 : o < es.length := by omega
      simp [wipeE, ix_accN l2, ix_0, word_bill, ix_rsN l1]
      cases (at_ es o).isB <;> simp [ix_rsN l1]) (fun o _ _ => by simp [wipeE])
    subst h
    have hp : partT es rs (lineT es) i ch = (openMs es rs (lineT es)).head? := by unfold partT; rw [e]
    rw [hp]
    have hq : openMs es rs (lineT es) = (lineT es).filter fun o => !(at_ es o).isB && decide (0 < rt rs o) := rfl
    rw [← hq]
    cases openMs es rs (lineT es) with
    | nil =>
      have := fNe_nats [] st
      simp only [List.map_nil] at this
      simp [optD, this]
    | cons a as =>
      have := fNe_nats (a :: as) st
      have e0 : ∀ st, fIx (.lst ((a :: as).map natD)) (.int 0) st = .ok (natD a) st := fun st => ix_nats (l := a :: as) (i := 0) rfl
      simp only [List.map_cons] at e0 this
      simp [optD, e0, this]
  -- a payment: its bill's own, or one chosen
  have fin : ∀ st, (if1 (eCall s_chosen_bill (aCons (eVar 7) (aCons (eVar 2) (aCons (eVar 4) aNil)))) (eC .non) [.val (accD es), .val (.lst ((lineT es).map natD)), .val (rsD rs), .val (natD i), .val (.str ch.s), .val (at_ es i).D, .un, .val (.lst ((openBs es rs (lineT es)).map natD)), .un]
      (fNe (.lst ((openBs es rs (lineT es)).map natD)) (.lst []) st)) = .ok (optD (bestT ch rs (openBs es rs (lineT es)))) st := fun st => by
    rw [fNe_nats]
    cases q : openBs es rs (lineT es) with
    | nil => simp [bestT, optD]
    | cons a as =>
      cases b : bestT ch rs (a :: as) with
      | none => rw [bestT_none] at b; cases b
      | some o =>
        have := chosen_ok (a :: as) rs ch o b (fun d hd => hL d (List.mem_filter.mp (show d ∈ openBs es rs (lineT es) by rw [q]; exact hd)).1) st
        simp only [List.map_cons] at this
        simp [this, optD]
  cases e : at_ es i with
  | bill d s => exact bill d s e
  | str => rw [e] at hi; cases hi
  | pay d s =>
    have ei : ∀ st, fIx (accD es) (natD i) st = .ok (Ent.D (.pay d s)) st := fun st => by rw [ix_accN hli, e]
    have hp : partT es rs (lineT es) i ch = bestT ch rs (openBs es rs (lineT es)) := by unfold partT; rw [e]
    rw [e] at fin
    simp [s_partner, m_partner, startE, ei, ix_0, Ent.word, w_pn, w_pb]
    generalize hX : lc1 _ _ _ _ _ _ _ = X
    have h := debts hX
    subst h
    rw [hp]
    simp [fin]
  | nam d s k =>
    have ei : ∀ st, fIx (accD es) (natD i) st = .ok (Ent.D (.nam d s k)) st := fun st => by rw [ix_accN hli, e]
    obtain ⟨hk0, d', s', hk1, _⟩ := hv.nm (.nam d s k) (by rw [← e]; exact List.mem_of_getElem? (at_lt hli))
    obtain ⟨n, rfl⟩ := Int.eq_ofNat_of_zero_le hk0
    simp only [Int.toNat_natCast] at hk1
    have hn : n < rs.length := by rw [hr]; exact (List.getElem?_eq_some_iff.mp hk1).1
    have hp : partT es rs (lineT es) i ch = if 0 < rt rs n then some n else bestT ch rs (openBs es rs (lineT es)) := by unfold partT; rw [e]; simp
    rw [e] at fin
    by_cases hpos : 0 < rt rs n
    · rw [hp, if_pos hpos]
      simp [s_partner, m_partner, startE, ei, ix_0, ix_3, Ent.word, ix_rs hn, hpos, optD]
      rfl
    · rw [hp, if_neg hpos]
      simp [s_partner, m_partner, startE, ei, ix_0, ix_3, Ent.word, ix_rs hn, hpos, w_nb]
      generalize hX : lc1 _ _ _ _ _ _ _ = X
      have h := debts hX
      subst h
      simp [fin]

/-! ### the program's laying -/
def dayW (days : Bool) : Str := if days then "days" else "entered"
def manD (days : Bool) (ch : Ch) : D := .tup [.str (dayW days), .str ch.s]
theorem man_0 (days : Bool) (ch : Ch) (st : Sto) : fIx (manD days ch) (.int 0) st = .ok (.str (dayW days)) st := rfl
theorem dayW_eq (days : Bool) : decide (dayW days = ("days" : Str)) = days := by cases days <;> decide
theorem man_1 (days : Bool) (ch : Ch) (st : Sto) : fIx (manD days ch) (.int 1) st = .ok (.str ch.s) st := rfl
theorem w_de : (("entered" : Str) = "days") = False := eq_false (by decide)
theorem w_ed : (("days" : Str) = "entered") = False := eq_false (by decide)
theorem zeros_map {α : Type} (xs : List α) : (xs.map fun _ => D.int 0) = (List.replicate xs.length (0 : Int)).map D.int := by
  induction xs with
  | nil => rfl
  | cons x xs ih => simp only [List.map_cons, ih, List.length_cons, List.replicate_succ]
theorem stepsT_live {es : List Ent} {days : Bool} {i : Nat} (h : i ∈ stepsT es days) : (at_ es i).live = true := by
  unfold stepsT at h
  cases days with
  | true => exact lineT_mem.mp h
  | false => exact enteredT_mem.mp h
theorem goT_app (es : List Ent) (ch : Ch) : ∀ (l : List Nat) (i : Nat) (rs : Rs) (ps : List PairT), goT es ch (l ++ [i]) rs ps = runT es (lineT es) ch i (es.length + 1) ((goT es ch l rs ps).1.set i (at_ es i).amt) (goT es ch l rs ps).2
  | [], i, rs, ps => by simp [goT]
  | x :: l, i, rs, ps => by
    rw [List.cons_append, goT, goT_app es ch l]
    rfl
theorem runT_len {es : List Ent} {ch : Ch} {i : Nat} (hv : Valid es) (hi : (at_ es i).live = true) (rs : Rs) (ps : List PairT) : ∃ k, k ≤ es.length ∧ RunN es (lineT es) ch i k rs ps (runT es (lineT es) ch i (es.length + 1) rs ps).1 (runT es (lineT es) ch i (es.length + 1) rs ps).2 ∧ (runT es (lineT es) ch i (es.length + 1) rs ps).1.length = rs.length ∧ (runT es (lineT es) ch i (es.length + 1) rs ps).2.length ≤ ps.length + es.length := by
  have hc : cnt rs (lineT es) ≤ es.length := Nat.le_trans (List.length_filter_le _ _) (lineT_len es)
  obtain ⟨k, rs', ps', h1, h2, h3, h4⟩ := run_ends (ch := ch) hv hi es.length rs ps hc
  have e := h2.runT (es.length + 1) (by omega)
  rw [e]
  exact ⟨k, h1, h2, h3, h4⟩
theorem goT_len {es : List Ent} {ch : Ch} (hv : Valid es) : ∀ (l : List Nat) (rs : Rs) (ps : List PairT), (∀ i ∈ l, (at_ es i).live = true) → (goT es ch l rs ps).1.length = rs.length ∧ (goT es ch l rs ps).2.length ≤ ps.length + l.length * es.length
  | [], rs, ps, _ => ⟨rfl, by simp [goT]⟩
  | i :: l, rs, ps, h => by
    obtain ⟨k, _, _, h3, h4⟩ := runT_len (ch := ch) hv (h i (List.mem_cons_self ..)) (rs.set i (at_ es i).amt) ps
    obtain ⟨h5, h6⟩ := goT_len (ch := ch) hv l (runT es (lineT es) ch i (es.length + 1) (rs.set i (at_ es i).amt) ps).1 (runT es (lineT es) ch i (es.length + 1) (rs.set i (at_ es i).amt) ps).2 fun j hj => h j (List.mem_cons_of_mem _ hj)
    refine ⟨by rw [goT, h5, h3, List.length_set], ?_⟩
    rw [goT]
    refine Nat.le_trans h6 ?_
    rw [List.length_cons, Nat.add_mul]
    omega
theorem pairs_of_ok (es : List Ent) (hv : Valid es) (hl : es.length ≤ 200) (days : Bool) (ch : Ch) (st : Sto) : s_pairs_of [accD es, manD days ch] st = .ok (.lst ((layT es days ch).map pairD)) st := by
  have hz : ∀ st, lc1 false (.nm 9) (eC (.bl true)) (eC (.int 0)) [9] [.val (accD es), .val (manD days ch), .val (.lst ((lineT es).map natD)), .val (.lst ((stepsT es days).map natD)), .un, .un, .un, .un, .un, .un] (.ok (es.map Ent.D) st) = .ok ((List.replicate es.length (0 : Int)).map D.int) st := fun st => by
    generalize hX : lc1 _ _ _ _ _ _ _ = X
    have h := lc_gen Ent.D es (fun _ => true) (fun _ => D.int 0) hX (by omega) (by simp) (fun _ _ => rfl) (fun _ _ _ => rfl)
    rw [h, List.filter_eq_self.mpr (fun _ _ => rfl), zeros_map]
  have e3 : ∀ st, (if1 (eVar 2) (eUn fSort (eVar 2)) [.val (accD es), .val (manD days ch), .val (.lst ((lineT es).map natD)), .un, .un, .un, .un, .un, .un, .un] (.ok (.bl days) st)) = .ok (.lst ((stepsT es days).map natD)) st := fun st => by
    cases days with
    | true => simp [stepsT]
    | false => simp [stepsT, fSort_nat, enteredT]
  have hacc : ∀ st, seqD (accD es) st = .ok (es.map Ent.D) st := fun _ => rfl
  simp [s_pairs_of, m_pairs_of, startE, line_of_ok es (by omega), man_0, man_1, dayW_eq, e3, hz, hacc]
  generalize hX : forGo _ _ _ _ _ = X
  obtain ⟨e, s, rfl, x6, x7, x8, rfl, rfl⟩ := for_inv hX (fun n env s => ∃ x6 x7 x8, env = [.val (accD es), .val (manD days ch), .val (.lst ((lineT es).map natD)), .val (.lst ((stepsT es days).map natD)), .own ((goT es ch ((stepsT es days).take n) (List.replicate es.length 0) []).1.map D.int), .own ((goT es ch ((stepsT es days).take n) (List.replicate es.length 0) []).2.map pairD), x6, x7, x8, .un] ∧ s = st)
    ⟨.un, .un, .un, by simp [goT], rfl⟩ (by
      rintro n x env s hx ⟨x6, x7, x8, rfl, rfl⟩
      rw [List.getElem?_map] at hx
      obtain ⟨i, hin, rfl⟩ := Option.map_eq_some_iff.mp hx
      have hlive : (at_ es i).live = true := stepsT_live (List.mem_of_getElem? hin)
      have hi := at_live hlive
      have htk : (stepsT es days).take (n + 1) = (stepsT es days).take n ++ [i] := by rw [List.take_add_one, hin]; rfl
      have hsl : (stepsT es days).length ≤ es.length := by
        unfold stepsT
        cases days with
        | true => exact lineT_len es
        | false => exact Nat.le_trans (Nat.le_of_eq (enteredT_perm es).length_eq) (lineT_len es)
      obtain ⟨g1, g2⟩ := goT_len (ch := ch) hv ((stepsT es days).take n) (List.replicate es.length 0) [] fun j hj => stepsT_live (List.mem_of_mem_take hj)
      rw [List.length_replicate] at g1
      have g2 : (goT es ch ((stepsT es days).take n) (List.replicate es.length 0) []).2.length ≤ 40000 := by
        refine Nat.le_trans g2 ?_
        simp only [List.length_nil, Nat.zero_add]
        refine Nat.le_trans (Nat.mul_le_mul (Nat.le_trans (List.length_take_le' ..) (Nat.le_trans hsl hl)) hl) (by decide)
      rw [htk, goT_app]
      generalize (goT es ch ((stepsT es days).take n) (List.replicate es.length 0) []).1 = rs0 at g1 ⊢
      generalize (goT es ch ((stepsT es days).take n) (List.replicate es.length 0) []).2 = ps0 at g2 ⊢
      obtain ⟨k, k1, k2, k3, k4⟩ := runT_len (ch := ch) hv hlive (rs0.set i (at_ es i).amt) ps0
      generalize (runT es (lineT es) ch i (es.length + 1) (rs0.set i (at_ es i).amt) ps0).1 = rs1 at k2 k3 k4 ⊢
      generalize (runT es (lineT es) ch i (es.length + 1) (rs0.set i (at_ es i).amt) ps0).2 = ps1 at k2 k3 k4 ⊢
      refine ⟨_, rfl, ?_⟩
      have ix0 : L2.ixN rs0.length (i : Int) = some i := ixN_nat (by omega)
      have pn : ∀ (env : SEnv) (d : D) st, put2 4 env (rs0.map D.int) d (.ok (natD i) st) = .nx (env.set 4 (.own ((rs0.map D.int).set i d))) st := fun env d st => put2_nat (by rw [List.length_map]; omega)
      simp only [ps_seq, ps_put_, pv_bin, pv_var, pv_C, List.getElem?_cons_succ, List.getElem?_cons_zero, bin1_ok, bin2_ok, put1_ok, List.set_cons_succ, List.set_cons_zero, ix_accN hi, ix_2 hlive, pn, seq1_nx, mWhile, List.length_set, List.length_map]
      rw [← List.map_set (f := D.int)]
      generalize hW : whileGo _ _ _ _ _ = Wx
      have hlen0 : (rs0.set i (at_ es i).amt).length = es.length := by rw [List.length_set]; exact g1
      obtain ⟨e2, s2, rfl, y7, y8, rfl, rfl⟩ := while_eq hW (fun k env st => ∃ rs ps y7 y8, env = [.val (accD es), .val (manD days ch), .val (.lst ((lineT es).map natD)), .val (.lst ((stepsT es days).map natD)), .own (rs.map D.int), .own (ps.map pairD), .val (natD i), y7, y8, .un] ∧ st = s ∧ RunN es (lineT es) ch i k rs ps rs1 ps1 ∧ rs.length = es.length ∧ ps.length + k ≤ 41000)
        (fun env st => ∃ y7 y8, env = [.val (accD es), .val (manD days ch), .val (.lst ((lineT es).map natD)), .val (.lst ((stepsT es days).map natD)), .own (rs1.map D.int), .own (ps1.map pairD), .val (natD i), y7, y8, .un] ∧ st = s)
        (k := k) ⟨_, ps0, x7, x8, rfl, rfl, k2, hlen0, by omega⟩ (by omega) (by
          rintro k env st ⟨rs, ps, y7, y8, rfl, rfl, hR, hlr, hps⟩
          have hir : i < rs.length := by omega
          have hp : ∀ st, s_partner [accD es, .lst ((lineT es).map natD), .lst (rs.map D.int), natD i, .str ch.s] st = .ok (optD (partT es rs (lineT es) i ch)) st := fun st => partner_ok es hv (by omega) rs hlr i hlive ch st
          cases hR with
          | zero h => exact .inl ⟨by simp [ix_rl hir]; omega, y7, y8, rfl, rfl⟩
          | none h h2 =>
            rw [h2] at hp
            refine .inr ⟨by simp [ix_rl hir, h], .inl ⟨_, _, ?_, .val .non, y8, rfl, rfl⟩⟩
            simp [man_1, hp, optD]
            rfl
          | step h h2 h3 =>
            rename_i n o
            rw [h2] at hp
            obtain ⟨q1, q2, q3, q4⟩ := part_some hv hlive h2
            have hor : o < rs.length := by rw [hlr]; exact at_live q3
            refine .inr ⟨by simp [ix_rl hir, h], .inr ⟨n, rfl, _, _, .inl ?_, _, _, .val (natD o), .val (.int (min (rt rs i) (rt rs o))), rfl, rfl, h3, by unfold stepR; simp [hlr], by unfold stepP; simp; omega⟩⟩
            have p1 : ∀ (env : SEnv) (d : D) st, put2 4 env (rs.map D.int) d (.ok (natD i) st) = .nx (env.set 4 (.own ((rs.map D.int).set i d))) st := fun env d st => put2_nat (by rw [List.length_map]; omega)
            have p2 : ∀ (env : SEnv) (v : Int) (d : D) st, put2 4 env ((rs.set i v).map D.int) d (.ok (natD o) st) = .nx (env.set 4 (.own (((rs.set i v).map D.int).set o d))) st := fun env v d st => put2_nat (by rw [List.length_map, List.length_set]; omega)
            have r2 : ∀ (v : Int) st, fIx (.lst ((rs.set i v).map D.int)) (natD o) st = .ok (.int (rt rs o)) st := fun v st => by rw [ix_rl (by rw [List.length_set]; exact hor), rt_set_ne q2]
            have hsz : ps.length + 1 ≤ 100000 := by omega
            have isn : ∀ st, fIsN (natD o) .non st = .ok (.bl false) st := fun _ => rfl
            simp only [List.map_set] at p2 r2
            cases hB : (at_ es i).isB with
            | true => simp [man_1, hp, optD, isn, ix_rl hir, ix_rl hor, p1, p2, r2, ix_accN hi, ix_0, word_bill, hB, hsz, stepR, stepP, pairD, List.map_set]
            | false => simp [man_1, hp, optD, isn, ix_rl hir, ix_rl hor, p1, p2, r2, ix_accN hi, ix_0, word_bill, hB, hsz, stepR, stepP, pairD, List.map_set])
      exact ⟨_, _, .inl rfl, .val (natD i), y7, y8, rfl, rfl⟩)
  simp [fSort_pairs]
  rfl

/-! ### the law's partner -/
def lpT (es : List Ent) (rs : Rs) (al : List Nat) (i : Nat) (ch : Ch) : Option Nat := match at_ es i with
  | .bill _ _ => (openMs es rs al).head?
  | _ => bestT ch rs (openBs es rs al)
theorem fEq_lnil {xs : List D} {st : Sto} (h : okDs xs 60 = true) : fEq (.lst xs) (.lst []) st = .ok (.bl xs.isEmpty) st := by
  have := fNe_lnil (xs := xs) (st := st) h
  unfold fNe at this
  unfold fEq
  cases e : eqD (.lst xs) (.lst []) with
  | none => rw [e] at this; cases this
  | some b => rw [e] at this; cases b <;> cases q : xs.isEmpty <;> simp_all
theorem fEq_nats (l : List Nat) (st : Sto) : fEq (.lst (l.map natD)) (.lst []) st = .ok (.bl l.isEmpty) st := by
  rw [fEq_lnil (okD_nat l 60)]; simp
theorem openMs_eq (es : List Ent) (rs : Rs) (al : List Nat) : al.filter (fun o => decide (0 < rt rs o) && !(at_ es o).isB) = openMs es rs al := by
  unfold openMs
  congr 1; funext o; exact Bool.and_comm ..
theorem openBs_eq (es : List Ent) (rs : Rs) (al : List Nat) : al.filter (fun o => decide (0 < rt rs o) && (at_ es o).isB) = openBs es rs al := by
  unfold openBs
  congr 1; funext o; exact Bool.and_comm ..
theorem rests_map (rs : Rs) (ds : List Nat) : (ds.map fun o => D.int (rt rs o)) = (ds.map (rt rs)).map D.int := by rw [List.map_map]; rfl
theorem max_rs (st : Sto) (rs : Rs) (d : Nat) (ds : List Nat) : fMax1 (.lst ((d :: ds).map fun o => D.int (rt rs o))) st = .ok (.int ((ds.map (rt rs)).foldl max (rt rs d))) st := by
  rw [rests_map]
  simp only [fMax1, lsOf, Option.bind, intsD_map]
  rfl
theorem min_rs (st : Sto) (rs : Rs) (d : Nat) (ds : List Nat) : fMin1 (.lst ((d :: ds).map fun o => D.int (rt rs o))) st = .ok (.int ((ds.map (rt rs)).foldl min (rt rs d))) st := by
  rw [rests_map]
  simp only [fMin1, lsOf, Option.bind, intsD_map]
  rfl
theorem index_rs (st : Sto) (rs : Rs) (ds : List Nat) (v : Int) (j : Nat) (h : (ds.map (rt rs)).findIdx? (fun n => decide (n = v)) = some j) : fIndex (.lst (ds.map fun o => D.int (rt rs o))) (.int v) st = .ok (.int (j : Int)) st := by
  rw [rests_map]
  simp only [fIndex, lsOf, Option.bind, intsD_map, h]
theorem fNe_b {i j : Bool} {st : Sto} : fNe (.bl i) (.bl j) st = .ok (.bl (!decide (i = j))) st := by cases i <;> cases j <;> rfl
theorem lawpart_ok (es : List Ent) (hl : es.length ≤ 1000) (rs : Rs) (hr : rs.length = es.length) (i : Nat) (hi : i < es.length) (ch : Ch) (st : Sto) :
    s__law_partner [accD es, .lst ((lineT es).map natD), rsD rs, natD i, .str ch.s] st = .ok (optD (lpT es rs (lineT es) i ch)) st := by
  have hL : ∀ o ∈ lineT es, o < rs.length := fun o ho => by rw [hr]; exact at_live (lineT_mem.mp ho)
  have hz := Nat.le_trans (lineT_len es) hl
  simp [s__law_partner, m__law_partner, startE]
  generalize hX : lc1 _ _ _ _ _ _ _ = X
  have h := lc_gen natD (lineT es) (fun o => decide (0 < rt rs o) && decide ((at_ es o).isB ≠ (at_ es i).isB)) natD hX (by omega) (by simp) (fun o ho => by
      have l1 := hL o ho
      have l2 : o < es.length := by omega
      simp [wipeE, ix_rsN l1]
      by_cases q : 0 < rt rs o
      · simp [q, ix_accN l2, ix_accN hi, ix_0, word_bill, fNe_b]
      · simp [q]) (fun o _ _ => by simp [wipeE])
  subst h
  clear hX
  cases hB : (at_ es i).isB with
  | true =>
    have e1 : (lineT es).filter (fun o => decide (0 < rt rs o) && decide ((at_ es o).isB ≠ true)) = openMs es rs (lineT es) := by
      rw [← openMs_eq]; congr 1; funext o; cases (at_ es o).isB <;> rfl
    rw [e1]
    have e2 : lpT es rs (lineT es) i ch = (openMs es rs (lineT es)).head? := by
      unfold lpT
      cases e : at_ es i <;> rw [e] at hB <;> first | rfl | cases hB
    rw [e2]
    simp [fEq_nats]
    cases q : openMs es rs (lineT es) with
    | nil => simp [optD]
    | cons a as =>
      have e0 : ∀ st, fIx (.lst ((a :: as).map natD)) (.int 0) st = .ok (natD a) st := fun st => ix_nats (l := a :: as) (i := 0) rfl
      simp only [List.map_cons] at e0
      simp [ix_accN hi, ix_0, word_bill, hB, e0, optD]
  | false =>
    have e1 : (lineT es).filter (fun o => decide (0 < rt rs o) && decide ((at_ es o).isB ≠ false)) = openBs es rs (lineT es) := by
      rw [← openBs_eq]; congr 1; funext o; cases (at_ es o).isB <;> rfl
    rw [e1]
    have e2 : lpT es rs (lineT es) i ch = bestT ch rs (openBs es rs (lineT es)) := by
      unfold lpT
      cases e : at_ es i <;> rw [e] at hB <;> first | rfl | cases hB
    rw [e2]
    have hM : ∀ d ∈ openBs es rs (lineT es), d < rs.length := fun d hd => hL d (List.mem_filter.mp hd).1
    simp [fEq_nats]
    have hS : (openBs es rs (lineT es)).length ≤ 1000 := Nat.le_trans (List.length_filter_le _ _) hz
    generalize openBs es rs (lineT es) = ds at hM hS ⊢
    cases ds with
    | nil => simp [optD, bestT]
    | cons a as =>
      have e0 : ∀ st, fIx (.lst ((a :: as).map natD)) (.int 0) st = .ok (natD a) st := fun st => ix_nats (l := a :: as) (i := 0) rfl
      simp only [List.map_cons] at e0
      simp [ix_accN hi, ix_0, word_bill, hB]
      cases ch with
      | old => simp [Ch.s, e0, bestT, optD]
      | new =>
        simp [Ch.s, c_no, bestT]
        have := List.getLast?_eq_some_getLast (l := a :: as) (by simp)
        rw [this]
        have e1 : ∀ st, fIx (.lst ((a :: as).map natD)) (.int (-1)) st = .ok (natD ((a :: as).getLast (by simp))) st := fun st => ix_last this
        simp only [List.map_cons] at e1
        simp [e1, optD]
      | gre =>
        simp [Ch.s, c_go, c_gn, bestT]
        generalize hX : lc1 _ _ _ _ _ _ _ = X
        have h := lc_gen natD (a :: as) (fun _ => true) (fun o => D.int (rt rs o)) hX (by omega) (by simp) (fun _ _ => rfl) (fun o ho _ => by simp [wipeE, ix_rsN (hM o ho)])
        subst h
        rw [List.filter_eq_self.mpr (fun _ _ => rfl)]
        obtain ⟨j, h1, h2⟩ := maxT_index rs a as
        have hm := fun st => max_rs st rs a as
        have hx := fun st => index_rs st rs (a :: as) _ j h1
        have hi := fun st => ix_nats (st := st) h2
        simp only [List.map_cons] at hm hx hi
        simp [hm, hx, hi, c_lg, optD]
      | lea =>
        simp [Ch.s, c_lo, c_ln, c_lg, bestT]
        generalize hX : lc1 _ _ _ _ _ _ _ = X
        have h := lc_gen natD (a :: as) (fun _ => true) (fun o => D.int (rt rs o)) hX (by omega) (by simp) (fun _ _ => rfl) (fun o ho _ => by simp [wipeE, ix_rsN (hM o ho)])
        subst h
        rw [List.filter_eq_self.mpr (fun _ _ => rfl)]
        obtain ⟨j, h1, h2⟩ := minT_index rs a as
        have hm := fun st => min_rs st rs a as
        have hx := fun st => index_rs st rs (a :: as) _ j h1
        have hi := fun st => ix_nats (st := st) h2
        simp only [List.map_cons] at hm hx hi
        simp [hm, hx, hi, c_lg, optD]

/-! ### the law's laying -/
def namedNo (es : List Ent) (rs : Rs) (i : Nat) : Prop := ∀ d s k, at_ es i = .nam d s k → 0 < rt rs i → ¬ 0 < rt rs k.toNat
theorem lp_later {es : List Ent} {rs : Rs} {al : List Nat} {i : Nat} {ch : Ch} (h : namedNo es rs i) (hp : 0 < rt rs i) : lpT es rs al i ch = partT es rs al i ch := by
  unfold lpT partT
  cases e : at_ es i with
  | nam d s k => simp only [if_neg (h d s k e hp)]
  | _ => rfl
theorem namedNo_step {es : List Ent} {rs : Rs} {i o : Nat} {ch : Ch} (hv : Valid es) (hi : (at_ es i).live = true) (h : 0 < rt rs i) (ho : partT es rs (lineT es) i ch = some o) : namedNo es (stepR rs i o) i := by
  intro d s k e hp hk
  obtain ⟨q1, q2, q3, q4⟩ := part_some hv hi ho
  obtain ⟨s1, s2, s3, s4, s5, s6⟩ := step_rt h q1 q2
  have hk2 : 0 < rt rs k.toNat := by rcases s1 k.toNat with z | z <;> omega
  have : partT es rs (lineT es) i ch = some k.toNat := by unfold partT; rw [e]; simp only [if_pos hk2]
  rw [this] at ho
  cases ho
  rcases s4 with z | z <;> omega
theorem word_nam_nam {d s k : Int} : (Ent.nam d s k).word = "named" := rfl
def twoA : ME := eIf (eBin fGt (eBin fIx (eOwn 2) (eVar 5)) (eC (.int 0))) (eCall s__law_partner (aCons (eVar 0) (aCons (eVar 4) (aCons (eOwn 2) (aCons (eVar 5) (aCons (eBin fIx (eVar 1) (eC (.int 1))) aNil)))))) (eC .non)
def twoB : MS := mIf (eAnd (eBin fEq (eBin fIx (eBin fIx (eVar 0) (eVar 5)) (eC (.int 0))) (eC (.str "named"))) (eAnd (eBin fEq (eVar 6) (eC (.int 0))) (eBin fGt (eBin fIx (eOwn 2) (eBin fIx (eBin fIx (eVar 0) (eVar 5)) (eC (.int 3)))) (eC (.int 0))))) (mSet 7 (eBin fIx (eBin fIx (eVar 0) (eVar 5)) (eC (.int 3)))) mNext
def nextT (es : List Ent) (rs : Rs) (i : Nat) (ch : Ch) : Option Nat := if 0 < rt rs i then partT es rs (lineT es) i ch else none
theorem two_ok (es : List Ent) (hv : Valid es) (hl : es.length ≤ 1000) (days : Bool) (ch : Ch) (rs : Rs) (hr : rs.length = es.length) (i : Nat) (hi : (at_ es i).live = true) (k : Nat) (ps : List D) (h0 : k = 0 → 0 < rt rs i) (h1 : k ≠ 0 → namedNo es rs i) (x7 x8 x9 : SV) (st : Sto) (rest : MS) :
    mSeq (mSetU 7 twoA) (mSeq twoB rest) [.val (accD es), .val (manD days ch), .own (rs.map D.int), .own ps, .val (.lst ((lineT es).map natD)), .val (natD i), .val (natD k), x7, x8, x9, .un] st =
      rest [.val (accD es), .val (manD days ch), .own (rs.map D.int), .own ps, .val (.lst ((lineT es).map natD)), .val (natD i), .val (natD k), .val (optD (nextT es rs i ch)), x8, x9, .un] st := by
  have li := at_live hi
  have lr : i < rs.length := by omega
  have hp : ∀ st, s__law_partner [accD es, .lst ((lineT es).map natD), .lst (rs.map D.int), natD i, .str ch.s] st = .ok (optD (lpT es rs (lineT es) i ch)) st := fun st => lawpart_ok es (by omega) rs hr i li ch st
  have ek : ∀ st, fEq (natD k) (.int 0) st = .ok (.bl (decide (k = 0))) st := fun st => by
    rw [natD, fEq_i]; congr 2; exact decide_eq_decide.mpr (by omega)
  have eo : ∀ (o : Option Nat), noLst (optD o) = true := fun o => by cases o <;> rfl
  cases e : at_ es i with
  | str => rw [e] at hi; cases hi
  | nam d s n =>
    obtain ⟨hk0, d', s', hk1, _⟩ := hv.nm (.nam d s n) (by rw [← e]; exact List.mem_of_getElem? (at_lt li))
    obtain ⟨n, rfl⟩ := Int.eq_ofNat_of_zero_le hk0
    simp only [Int.toNat_natCast] at hk1
    have hn : n < rs.length := by rw [hr]; exact (List.getElem?_eq_some_iff.mp hk1).1
    have hpt : partT es rs (lineT es) i ch = if 0 < rt rs n then some n else lpT es rs (lineT es) i ch := by unfold partT lpT; rw [e]; simp
    have ixn : ∀ st, fIx (.lst (rs.map D.int)) (.int (n : Int)) st = .ok (.int (rt rs n)) st := fun st => ix_rl hn
    by_cases hk : k = 0
    · subst hk
      have q := h0 rfl
      have ek0 : ∀ st, fEq (natD 0) (.int 0) st = .ok (.bl true) st := fun _ => rfl
      have os : optD (some n) = natD n := rfl
      by_cases hb : 0 < rt rs n
      · simp [twoA, twoB, ix_rl lr, q, hp, man_1, nextT, eo, ix_accN li, ix_0, ix_3, e, Ent.word, ek0, ixn, hb, hpt, os]
        rfl
      · simp [twoA, twoB, ix_rl lr, q, hp, man_1, nextT, eo, ix_accN li, ix_0, ix_3, e, Ent.word, ek0, ixn, hb, hpt]
    · have hm := h1 hk
      by_cases q : 0 < rt rs i
      · rw [lp_later hm q] at hp
        simp [twoA, twoB, ix_rl lr, q, hp, man_1, nextT, eo, ix_accN li, ix_0, e, Ent.word, ek, hk]
      · simp [twoA, twoB, ix_rl lr, q, nextT, ix_accN li, ix_0, e, Ent.word, ek, hk, optD]
  | bill d s =>
    have hn : namedNo es rs i := fun d s k q => by rw [e] at q; cases q
    by_cases q : 0 < rt rs i
    · rw [lp_later hn q] at hp
      simp [twoA, twoB, ix_rl lr, q, hp, man_1, nextT, eo, ix_accN li, ix_0, e, Ent.word, w_bn]
    · simp [twoA, twoB, ix_rl lr, q, nextT, ix_accN li, ix_0, e, Ent.word, w_bn, optD]
  | pay d s =>
    have hn : namedNo es rs i := fun d s k q => by rw [e] at q; cases q
    by_cases q : 0 < rt rs i
    · rw [lp_later hn q] at hp
      simp [twoA, twoB, ix_rl lr, q, hp, man_1, nextT, eo, ix_accN li, ix_0, e, Ent.word, w_pn]
    · simp [twoA, twoB, ix_rl lr, q, nextT, ix_accN li, ix_0, e, Ent.word, w_pn, optD]

theorem r11_nat {n : Nat} (h : n < 100000) (st : Sto) : r11 (.ok (.int (n : Int)) st) = .ok ((List.range n).map natD) st := by
  rw [r11_ok (by omega), ← rng_nat]; simp
theorem amt_pos {es : List Ent} (hv : Valid es) {i : Nat} (hi : (at_ es i).live = true) : 1 ≤ (at_ es i).amt := by
  have h := hv.s1 (at_ es i) (List.mem_of_getElem? (at_lt (at_live hi)))
  cases e : at_ es i with
  | str => rw [e] at hi; cases hi
  | _ => rw [e] at h; exact h
theorem byrule_ok (es : List Ent) (hv : Valid es) (hl : es.length ≤ 200) (days : Bool) (ch : Ch) (st : Sto) : s__law_by_rule [accD es, manD days ch] st = .ok (.lst ((layT es days ch).map pairD)) st := by
  have hz : ∀ st, lc1 false (.nm 10) (eC (.bl true)) (eC (.int 0)) [10] [.val (accD es), .val (manD days ch), .un, .un, .un, .un, .un, .un, .un, .un, .un] (.ok (es.map Ent.D) st) = .ok ((List.replicate es.length (0 : Int)).map D.int) st := fun st => by
    generalize hX : lc1 _ _ _ _ _ _ _ = X
    have h := lc_gen Ent.D es (fun _ => true) (fun _ => D.int 0) hX (by omega) (by simp) (fun _ _ => rfl) (fun _ _ _ => rfl)
    rw [h, List.filter_eq_self.mpr (fun _ _ => rfl), zeros_map]
  have hacc : ∀ st, seqD (accD es) st = .ok (es.map Ent.D) st := fun _ => rfl
  have e3 : ∀ {x2 x3 x5 x6 x7 x8 x9 : SV} st, (if1 (eVar 4) (eUn fSort (eVar 4)) [.val (accD es), .val (manD days ch), x2, x3, .val (.lst ((lineT es).map natD)), x5, x6, x7, x8, x9, .un] (.ok (.bl days) st)) = .ok (.lst ((stepsT es days).map natD)) st := fun st => by
    cases days with
    | true => simp [stepsT]
    | false => simp [stepsT, fSort_nat, enteredT]
  simp [s__law_by_rule, m__law_by_rule, startE, along_ok es (by omega), man_0, dayW_eq, e3, hz, hacc]
  generalize hX : forGo _ _ _ _ _ = X
  obtain ⟨e, s, rfl, x5, x6, x7, x8, x9, rfl, rfl⟩ := for_inv hX (fun n env s => ∃ x5 x6 x7 x8 x9, env = [.val (accD es), .val (manD days ch), .own ((goT es ch ((stepsT es days).take n) (List.replicate es.length 0) []).1.map D.int), .own ((goT es ch ((stepsT es days).take n) (List.replicate es.length 0) []).2.map pairD), .val (.lst ((lineT es).map natD)), x5, x6, x7, x8, x9, .un] ∧ s = st)
    ⟨.un, .un, .un, .un, .un, by simp [goT], rfl⟩ (by
      rintro n x env s hx ⟨x5, x6, x7, x8, x9, rfl, rfl⟩
      rw [List.getElem?_map] at hx
      obtain ⟨i, hin, rfl⟩ := Option.map_eq_some_iff.mp hx
      have hlive : (at_ es i).live = true := stepsT_live (List.mem_of_getElem? hin)
      have hi := at_live hlive
      have htk : (stepsT es days).take (n + 1) = (stepsT es days).take n ++ [i] := by rw [List.take_add_one, hin]; rfl
      have hsl : (stepsT es days).length ≤ es.length := by
        unfold stepsT
        cases days with
        | true => exact lineT_len es
        | false => exact Nat.le_trans (Nat.le_of_eq (enteredT_perm es).length_eq) (lineT_len es)
      obtain ⟨g1, g2⟩ := goT_len (ch := ch) hv ((stepsT es days).take n) (List.replicate es.length 0) [] fun j hj => stepsT_live (List.mem_of_mem_take hj)
      rw [List.length_replicate] at g1
      have g2 : (goT es ch ((stepsT es days).take n) (List.replicate es.length 0) []).2.length ≤ 40000 := by
        refine Nat.le_trans g2 ?_
        simp only [List.length_nil, Nat.zero_add]
        refine Nat.le_trans (Nat.mul_le_mul (Nat.le_trans (List.length_take_le' ..) (Nat.le_trans hsl hl)) hl) (by decide)
      rw [htk, goT_app]
      generalize (goT es ch ((stepsT es days).take n) (List.replicate es.length 0) []).1 = rs0 at g1 ⊢
      generalize (goT es ch ((stepsT es days).take n) (List.replicate es.length 0) []).2 = ps0 at g2 ⊢
      obtain ⟨k, k1, k2, k3, k4⟩ := runT_len (ch := ch) hv hlive (rs0.set i (at_ es i).amt) ps0
      generalize (runT es (lineT es) ch i (es.length + 1) (rs0.set i (at_ es i).amt) ps0).1 = rs1 at k2 k3 k4 ⊢
      generalize (runT es (lineT es) ch i (es.length + 1) (rs0.set i (at_ es i).amt) ps0).2 = ps1 at k2 k3 k4 ⊢
      refine ⟨_, rfl, ?_⟩
      have ix0 : L2.ixN rs0.length (i : Int) = some i := ixN_nat (by omega)
      have pn : ∀ (env : SEnv) (d : D) st, put2 2 env (rs0.map D.int) d (.ok (natD i) st) = .nx (env.set 2 (.own ((rs0.map D.int).set i d))) st := fun env d st => put2_nat (by rw [List.length_map]; omega)
      have rg : ∀ st, r11 (.ok (.int ((es.length : Int) + 1)) st) = .ok ((List.range (es.length + 1)).map natD) st := fun st => by
        have := r11_nat (n := es.length + 1) (by omega) st
        simpa using this
      have hamt := amt_pos hv hlive
      have hlen0 : (rs0.set i (at_ es i).amt).length = es.length := by rw [List.length_set]; exact g1
      have hlen1 : rs1.length = es.length := by rw [k3, hlen0]
      have hrt0 : rt (rs0.set i (at_ es i).amt) i = (at_ es i).amt := rt_set_eq (by omega)
      simp only [ps_seq, ps_put_, pv_bin, pv_un, pv_var, pv_C, List.getElem?_cons_succ, List.getElem?_cons_zero, bin1_ok, bin2_ok, un1_ok, put1_ok, List.set_cons_succ, List.set_cons_zero, ix_accN hi, ix_2 hlive, pn, seq1_nx, len_acc]
      simp only [ps_for_, pv_r1, pv_bin, pv_un, pv_var, pv_C, bin1_ok, bin2_ok, un1_ok, List.getElem?_cons_succ, List.getElem?_cons_zero, len_acc, fAdd_i, rg, for1_ok]
      rw [← List.map_set (f := D.int)]
      generalize hW : forGo _ _ _ _ _ = Wx
      rcases for_gen hW (fun j env st => ∃ m rs ps x7 x8 x9 x6, env = [.val (accD es), .val (manD days ch), .own (rs.map D.int), .own (ps.map pairD), .val (.lst ((lineT es).map natD)), .val (natD i), x6, x7, x8, x9, .un] ∧ st = s ∧ RunN es (lineT es) ch i m rs ps rs1 ps1 ∧ rs.length = es.length ∧ ps.length + m ≤ 41000 ∧ m + j ≤ es.length ∧ (j = 0 → 0 < rt rs i) ∧ (j ≠ 0 → namedNo es rs i))
        (fun env st => ∃ x6 x7 x8 x9, env = [.val (accD es), .val (manD days ch), .own (rs1.map D.int), .own (ps1.map pairD), .val (.lst ((lineT es).map natD)), .val (natD i), x6, x7, x8, x9, .un] ∧ st = s) (fun _ _ => False)
        ⟨k, _, ps0, x7, x8, x9, x6, rfl, rfl, k2, hlen0, by omega, by omega, fun _ => by omega, fun z => absurd rfl z⟩ (by
          rintro j x env st hj ⟨m, rs, ps, y7, y8, y9, y6, rfl, rfl, hR, hlr, hps, hmj, hj0, hj1⟩
          rw [List.getElem?_map] at hj
          obtain ⟨j', hj', rfl⟩ := Option.map_eq_some_iff.mp hj
          have : j' = j := by
            obtain ⟨_, h⟩ := List.getElem?_eq_some_iff.mp hj'
            simpa using h.symm
          subst this
          refine ⟨_, rfl, ?_⟩
          have tw := fun rest => two_ok es hv (by omega) days ch rs hlr i hlive j' (ps.map pairD) hj0 hj1 y7 y8 y9 st rest
          simp only [twoA, twoB] at tw
          simp only [List.set_cons_succ, List.set_cons_zero, tw]
          have hir : i < rs.length := by omega
          cases hR with
          | zero h =>
            have e1 : nextT es _ i ch = none := if_neg h
            rw [e1]
            refine .inr (.inl ⟨_, _, ?_, .val (natD j'), .val .non, y8, y9, rfl, rfl⟩)
            simp [optD]
            rfl
          | none h h2 =>
            have e1 : nextT es rs1 i ch = none := by unfold nextT; rw [if_pos h, h2]
            rw [e1]
            refine .inr (.inl ⟨_, _, ?_, .val (natD j'), .val .non, y8, y9, rfl, rfl⟩)
            simp [optD]
            rfl
          | step h h2 h3 =>
            rename_i m o
            have e1 : nextT es rs i ch = some o := by unfold nextT; rw [if_pos h, h2]
            rw [e1]
            obtain ⟨q1, q2, q3, q4⟩ := part_some hv hlive h2
            have hor : o < rs.length := by rw [hlr]; exact at_live q3
            refine .inl ⟨_, _, .inl ?_, m, stepR rs i o, stepP es rs ps i o, .val (natD o), .val (.int (min (rt rs i) (rt rs o))), .val (.tup (if (at_ es i).isB then [natD i, natD o] else [natD o, natD i])), .val (natD j'), rfl, rfl, h3, by unfold stepR; simp [hlr], by unfold stepP; simp; omega, by omega, (fun z => by cases z), fun _ => namedNo_step hv hlive h h2⟩
            have p1 : ∀ (env : SEnv) (d : D) st, put2 2 env (rs.map D.int) d (.ok (natD i) st) = .nx (env.set 2 (.own ((rs.map D.int).set i d))) st := fun env d st => put2_nat (by rw [List.length_map]; omega)
            have p2 : ∀ (env : SEnv) (v : Int) (d : D) st, put2 2 env ((rs.set i v).map D.int) d (.ok (natD o) st) = .nx (env.set 2 (.own (((rs.set i v).map D.int).set o d))) st := fun env v d st => put2_nat (by rw [List.length_map, List.length_set]; omega)
            have r2 : ∀ (v : Int) st, fIx (.lst ((rs.set i v).map D.int)) (natD o) st = .ok (.int (rt rs o)) st := fun v st => by rw [ix_rl (by rw [List.length_set]; exact hor), rt_set_ne q2]
            have hsz : ps.length + 1 ≤ 100000 := by omega
            have isn : ∀ st, fIsN (natD o) .non st = .ok (.bl false) st := fun _ => rfl
            have at3 : ∀ (a b c : D) st, fAdd (.tup [a, b]) (.tup [c]) st = .ok (.tup [a, b, c]) st := fun _ _ _ _ => rfl
            simp only [List.map_set] at p2 r2
            cases hB : (at_ es i).isB with
            | true => simp [optD, isn, ix_rl hir, ix_rl hor, p1, p2, r2, ix_accN hi, ix_0, word_bill, hB, hsz, stepR, stepP, pairD, List.map_set, at3]
            | false => simp [optD, isn, ix_rl hir, ix_rl hor, p1, p2, r2, ix_accN hi, ix_0, word_bill, hB, hsz, stepR, stepP, pairD, List.map_set, at3]) with ⟨e, s2, rfl, h⟩ | ⟨_, _, _, h⟩
      · rcases h with ⟨m, rs, ps, y7, y8, y9, y6, rfl, rfl, hR, hlr, hps, hmj, _⟩ | ⟨y6, y7, y8, y9, rfl, rfl⟩
        · simp only [List.length_map, List.length_range] at hmj; omega
        · exact ⟨_, _, .inl rfl, .val (natD i), y6, y7, y8, y9, rfl, rfl⟩
      · exact h.elim)
  simp [fSort_pairs]
  rfl

/-! ### a value is like itself -/
def Smp : Nat → D → Prop
  | 0, _ => False
  | n + 1, .tup ds => ds.length ≤ 20000 ∧ ∀ x ∈ ds, Smp n x
  | n + 1, .lst ds => ds.length ≤ 20000 ∧ ∀ x ∈ ds, Smp n x
  | _ + 1, .int _ => True
  | _ + 1, .bl _ => True
  | _ + 1, .str _ => True
  | _ + 1, _ => False
theorem isN_ (d : D) (st : Sto) : fIsN d .non st = .ok (.bl (match d with | .non => true | _ => false)) st := by cases d <;> rfl
theorem like_step (n : Nat) : s__law_like_ (n + 1) = fnOfN 2 3 (m__law_like (s__law_like_ n)) := rfl
theorem r11_n {n : Nat} (h : n < 100000) (st : Sto) : r11 (.ok (.int (n : Int)) st) = .ok ((List.range n).map natD) st := by
  rw [r11_ok (by omega), ← rng_nat]; simp
theorem like_loop {n : Nat} {t u : D} {ds : List D} {st : Sto} (h : ∀ x ∈ ds, s__law_like_ n [x, x] st = .ok (.bl true) st) (ht : ∀ (i : Nat) x, ds[i]? = some x → fIx t (natD i) st = .ok x st) (hu : ∀ (i : Nat) x, ds[i]? = some x → fIx u (natD i) st = .ok x st) {x2 : SV} :
    ∃ y2, forGo (Tg.nm 2) (mIf (eNot (eCall (s__law_like_ n) (aCons (eBin fIx (eVar 0) (eVar 2)) (aCons (eBin fIx (eVar 1) (eVar 2)) aNil)))) (mRet (eC (.bl false))) mNext) ((List.range ds.length).map natD) [.val t, .val u, x2] st = .nx [.val t, .val u, y2] st := by
  generalize hX : forGo _ _ _ _ _ = X
  obtain ⟨e, s, rfl, y2, rfl, rfl⟩ := for_inv hX (fun _ env s => ∃ y2, env = [.val t, .val u, y2] ∧ s = st) ⟨_, rfl, rfl⟩ (by
    rintro i x env s hx ⟨y2, rfl, rfl⟩
    rw [List.getElem?_map] at hx
    obtain ⟨j, hj, rfl⟩ := Option.map_eq_some_iff.mp hx
    have hj2 : j < ds.length := List.mem_range.mp (List.mem_of_getElem? hj)
    have g1 : ds[j]? = some ds[j] := List.getElem?_eq_getElem hj2
    exact ⟨_, rfl, _, _, .inl (by simp [ht j _ g1, hu j _ g1, h _ (List.getElem_mem hj2)]), .val (natD j), rfl, rfl⟩)
  exact ⟨y2, rfl⟩
theorem like_eq : ∀ (n : Nat) (d : D) (st : Sto), Smp n d → s__law_like_ n [d, d] st = .ok (.bl true) st
  | 0, d, st, h => h.elim
  | n + 1, d, st, h => by
    rw [like_step]
    cases d with
    | int i => simp [m__law_like, startE, fIsB, bty, kind, isB, isN_]
    | bl i => simp [m__law_like, startE, fIsB, bty, kind, isB, isN_]
    | str i => simp [m__law_like, startE, fIsB, bty, kind, isB, isN_]
    | tup ds =>
      obtain ⟨h1, h2⟩ := h
      obtain ⟨y2, hl⟩ := like_loop (n := n) (t := .tup ds) (u := .tup ds) (ds := ds) (st := st) (x2 := .un) (fun x hx => like_eq n x st (h2 x hx)) (fun i x hx => fIx_t (atI_nat hx)) (fun i x hx => fIx_t (atI_nat hx))
      simp [m__law_like, startE, fIsB, bty, kind, isB, isN_, r11_n (Nat.lt_of_le_of_lt h1 (by decide : 20000 < 100000)), hl]
    | lst ds =>
      obtain ⟨h1, h2⟩ := h
      obtain ⟨y2, hl⟩ := like_loop (n := n) (t := .lst ds) (u := .lst ds) (ds := ds) (st := st) (x2 := .un) (fun x hx => like_eq n x st (h2 x hx)) (fun i x hx => fIx_l (atI_nat hx)) (fun i x hx => fIx_l (atI_nat hx))
      simp [m__law_like, startE, fIsB, bty, kind, isB, isN_, r11_n (Nat.lt_of_le_of_lt h1 (by decide : 20000 < 100000)), hl]
    | _ => exact h.elim
theorem like_obj {n k : Nat} {ds : List D} {st : Sto} (hk : st[k]? = some (.lst ds)) (h : Smp (n + 1) (.lst ds)) : s__law_like_ (n + 1) [.obj k, .lst ds] st = .ok (.bl true) st := by
  rw [like_step]
  obtain ⟨h1, h2⟩ := h
  have io : ∀ (i : Nat) x, ds[i]? = some x → fIx (.obj k) (natD i) st = .ok x st := fun i x hx => by
    have := fIx_l (st := st) (atI_nat hx)
    simpa [fIx, hk, lsOf, natD] using this
  obtain ⟨y2, hl⟩ := like_loop (n := n) (t := .obj k) (u := .lst ds) (ds := ds) (st := st) (x2 := .un) (fun x hx => like_eq n x st (h2 x hx)) io (fun i x hx => fIx_l (atI_nat hx))
  simp [m__law_like, startE, fIsB, bty, kind, isB, isN_, r11_n (Nat.lt_of_le_of_lt h1 (by decide : 20000 < 100000)), hl, hk, fLen, lsOf]

/-! ### what is owed on days -/
theorem fNe_s_ {i j : Str} {st : Sto} : fNe (.str i) (.str j) st = .ok (.bl (!decide (i = j))) st := by simp [fNe, eqD, deq, toP, PyData.eqv]
theorem level_ok (es : List Ent) (w : Int) (st : Sto) : s__law_level [accD es, .int w] st = .ok (.int (levT es w)) st := by
  have hacc : ∀ st, seqD (accD es) st = .ok (es.map Ent.D) st := fun _ => rfl
  have f1 : ∀ st, fInt (.bl true) st = .ok (.int 1) st := fun _ => rfl
  have f0 : ∀ st, fInt (.bl false) st = .ok (.int 0) st := fun _ => rfl
  have i1 : ∀ a b st, fIx (.lst [a, b]) (.int 1) st = .ok b st := fun _ _ _ => rfl
  have i0 : ∀ a b st, fIx (.lst [a, b]) (.int 0) st = .ok a st := fun _ _ _ => rfl
  simp [s__law_level, m__law_level, startE, hacc]
  generalize hX : forGo _ _ _ _ _ = X
  obtain ⟨e, s, rfl, x3, rfl, rfl⟩ := for_inv hX (fun n env s => ∃ x3, env = [.val (accD es), .val (.int w), .val (.int (levT (es.take n) w)), x3] ∧ s = st) ⟨.un, by simp [levT], rfl⟩ (by
    rintro n x env s hx ⟨x3, rfl, rfl⟩
    rw [List.getElem?_map] at hx
    obtain ⟨e, he, rfl⟩ := Option.map_eq_some_iff.mp hx
    have htk : es.take (n + 1) = es.take n ++ [e] := by rw [List.take_add_one, he]; rfl
    refine ⟨_, rfl, _, _, .inl ?_, .val e.D, rfl, rfl⟩
    have hl : levT (es.take (n + 1)) w = levT (es.take n) w + if onT w e then sgT e else 0 := by
      rw [htk]
      unfold levT
      rw [List.filter_append, List.map_append, List.sum_append]
      cases h : onT w e <;> simp [h]
    rw [hl]
    cases h1 : e.live with
    | false => simp [ix_0, word_str, h1, onT]
    | true =>
      by_cases h2 : e.day ≤ w
      · cases hB : e.isB with
        | true => simp [ix_0, word_str, word_bill, h1, ix_1 h1, ix_2 h1, h2, onT, sgT, hB, f1, f0, i1, i0]
        | false => simp [ix_0, word_str, word_bill, h1, ix_1 h1, ix_2 h1, h2, onT, sgT, hB, f1, f0, i1, i0]
      · simp [ix_0, word_str, h1, ix_1 h1, h2, onT])
  simp
theorem signed_ok (e : Ent) (h : e.live = true) (st : Sto) : s_signed [e.D] st = .ok (.int (sgT e)) st := by
  cases hB : e.isB with
  | true => simp [s_signed, m_signed, startE, ix_0, word_str, word_bill, h, ix_2 h, sgT, hB]
  | false => simp [s_signed, m_signed, startE, ix_0, word_str, word_bill, h, ix_2 h, sgT, hB]
theorem sum_map {α : Type} (f : α → Int) (xs : List α) (st : Sto) : fSum (.lst (xs.map fun x => .int (f x))) st = .ok (.int (xs.map f).sum) st := by
  have : intsD (xs.map fun x => D.int (f x)) = some (xs.map f) := by
    have := intsD_map (xs.map f)
    rwa [List.map_map] at this
  simp only [fSum, lsOf, Option.bind, this]
theorem on_test (w : Int) (e : Ent) (st : Sto) {env : SEnv} (h0 : env[1]? = some (.val (.int w))) {i : Nat} (hi : env[i]? = some (.val e.D)) : eAnd (eBin fNe (eBin fIx (eVar i) (eC (.int 0))) (eC (.str "struck"))) (eBin fLe (eBin fIx (eVar i) (eC (.int 1))) (eVar 1)) env st = .ok (.bl (onT w e)) st := by
  cases h1 : e.live with
  | false => simp [hi, ix_0, word_str, h1, onT]
  | true => simp [hi, h0, ix_0, word_str, h1, ix_1 h1, onT]
theorem balance_ok (es : List Ent) (hl : es.length ≤ 100000) (w : Int) (st : Sto) : s_balance_on [accD es, .int w] st = .ok (.int (levT es w)) st := by
  have hacc : ∀ st, seqD (accD es) st = .ok (es.map Ent.D) st := fun _ => rfl
  simp [s_balance_on, m_balance_on, startE, hacc]
  generalize hX : lc1 _ _ _ _ _ _ _ = X
  have h := lc_gen Ent.D es (onT w) (fun e => .int (sgT e)) hX hl (by simp) (fun e _ => on_test w e st rfl rfl) (fun e _ ho => by
    have hl : e.live = true := by unfold onT at ho; exact (Bool.and_eq_true_iff.mp ho).1
    simp [wipeE, signed_ok e hl])
  subst h
  simp [sum_map, levT]
theorem owedby_ok (es : List Ent) (hl : es.length ≤ 100000) (w : Int) (st : Sto) : s_owed_by [accD es, .int w] st = .ok (.int (owedT es w)) st := by
  simp [s_owed_by, m_owed_by, startE, balance_ok es hl, owedT]
theorem need_day_ok (w : Int) (st : Sto) : s_need_day [.int w] st = .ok .non st := by
  simp [s_need_day, m_need_day, startE, isint_i]
theorem owed_ok (es : List Ent) (hv : Valid es) (hl : es.length ≤ 100000) (w : Int) (st : Sto) : s_owed [accD es, .int w] st = .ok (.int (owedT es w)) st := by
  simp [s_owed, m_owed, startE, need_acc es hv hl, need_day_ok, owedby_ok es hl]
theorem up_ok (es : List Ent) (hl : es.length ≤ 100000) (w : Int) (st : Sto) : s_up_to [accD es, .int w] st = .ok (accD (upT es w)) st := by
  have hacc : ∀ st, seqD (accD es) st = .ok (es.map Ent.D) st := fun _ => rfl
  simp [s_up_to, m_up_to, startE, hacc]
  generalize hX : lc1 _ _ _ _ _ _ _ = X
  have h := lc_gen Ent.D es (fun _ => true) (fun e => (if onT w e then e else .str).D) hX hl (by simp) (fun e _ => by simp) (fun e _ _ => by
    cases h1 : e.live with
    | false => simp [wipeE, ix_0, word_str, h1, onT]; rfl
    | true =>
      by_cases h2 : e.day ≤ w
      · simp [wipeE, ix_0, word_str, h1, ix_1 h1, h2, onT]
      · simp [wipeE, ix_0, word_str, h1, ix_1 h1, h2, onT]; rfl)
  subst h
  rw [List.filter_eq_self.mpr (fun _ _ => rfl)]
  simp [accD, upT]
theorem sortset_days (es : List Ent) (hl : es.length ≤ 4000) (st : Sto) : fSortSet (.lst ((es.filter Ent.live).map fun e => .int e.day)) st = .ok (.lst ((daysT es).map D.int)) st := by
  have : intsD ((es.filter Ent.live).map fun e => D.int e.day) = some (dayL es) := by
    have := intsD_map (dayL es)
    unfold dayL at this ⊢
    rwa [List.map_map] at this
  simp only [fSortSet, lsOf, Option.bind, this]
  have hn : (dayL es).length ≤ 4000 := by
    unfold dayL
    rw [List.length_map]
    exact Nat.le_trans (List.length_filter_le _ _) hl
  rw [if_pos hn]
  rfl
theorem daysin_ok (es : List Ent) (hl : es.length ≤ 4000) (st : Sto) : s_days_in [accD es] st = .ok (.lst ((daysT es).map D.int)) st := by
  have hacc : ∀ st, seqD (accD es) st = .ok (es.map Ent.D) st := fun _ => rfl
  simp [s_days_in, m_days_in, startE, hacc]
  generalize hX : lc1 _ _ _ _ _ _ _ = X
  have h := lc_gen Ent.D es Ent.live (fun e => .int e.day) hX (by omega) (by simp) (fun e _ => by simp [wipeE, ix_0, word_str]) (fun e _ h => by simp [wipeE, ix_1 h])
  subst h
  simp [sortset_days es hl]
theorem accD_app (a b : List Ent) (hl : a.length + b.length ≤ 100000) (st : Sto) : fAdd (accD a) (accD b) st = .ok (accD (a ++ b)) st := by
  simp only [accD, fAdd, List.length_map]
  rw [if_pos (sz_lit hl), ← List.map_append]
theorem first_ok (a b : List Ent) (hl : a.length + b.length ≤ 4000) (st : Sto) : s_first_more [accD a, accD b] st = .ok (match fmT a b with | none => .non | some d => .int d) st := by
  have hab : (a ++ b).length ≤ 4000 := by rw [List.length_append]; exact hl
  have hla : a.length ≤ 100000 := by omega
  have hlb : b.length ≤ 100000 := by omega
  have hacc : ∀ (l : List Int) st, seqD (.lst (l.map D.int)) st = .ok (l.map D.int) st := fun _ _ => rfl
  simp [s_first_more, m_first_more, startE, accD_app a b (by omega), daysin_ok (a ++ b) hab, hacc]
  generalize hX : forGo _ _ _ _ _ = X
  unfold fmT
  rcases for_gen hX (fun n env s => ∃ x2, env = [.val (accD a), .val (accD b), x2] ∧ s = st ∧ ∀ d ∈ (daysT (a ++ b)).take n, ¬ owedT b d < owedT a d) (fun _ _ => False) (fun d s => s = st ∧ ∃ w, (daysT (a ++ b)).find? (fun d => decide (owedT b d < owedT a d)) = some w ∧ d = .int w)
    ⟨.un, rfl, rfl, by simp⟩ (by
      rintro n x env s hx ⟨x2, rfl, rfl, hall⟩
      rw [List.getElem?_map] at hx
      obtain ⟨w, hw, rfl⟩ := Option.map_eq_some_iff.mp hx
      have htk : (daysT (a ++ b)).take (n + 1) = (daysT (a ++ b)).take n ++ [w] := by rw [List.take_add_one, hw]; rfl
      refine ⟨_, rfl, ?_⟩
      by_cases h : owedT b w < owedT a w
      · refine .inr (.inr ⟨.int w, s, by simp [owedby_ok a hla, owedby_ok b hlb, h], rfl, w, ?_, rfl⟩)
        have e1 : daysT (a ++ b) = (daysT (a ++ b)).take n ++ (daysT (a ++ b)).drop n := (List.take_append_drop ..).symm
        have e2 : (daysT (a ++ b)).drop n = w :: (daysT (a ++ b)).drop (n + 1) := by
          obtain ⟨h1, h2⟩ := List.getElem?_eq_some_iff.mp hw
          rw [List.drop_eq_getElem_cons h1, h2]
        rw [e1, List.find?_append, List.find?_eq_none.mpr (fun d hd => by simpa using hall d hd), e2, List.find?_cons_of_pos (by simpa using h)]
        rfl
      · exact .inl ⟨_, _, .inl (by simp [owedby_ok a hla, owedby_ok b hlb, h]; rfl), _, rfl, rfl, fun d hd => by
          rw [htk] at hd
          rcases List.mem_append.mp hd with hd | hd
          · exact hall d hd
          · rw [List.mem_singleton.mp hd]; exact h⟩) with ⟨e, s, rfl, h⟩ | ⟨d, s, rfl, rfl, w, h, rfl⟩
  · rcases h with ⟨x2, rfl, rfl, hall⟩ | h
    · rw [List.length_map, List.take_length] at hall
      rw [List.find?_eq_none.mpr (fun d hd => by simpa using hall d hd)]
      simp
    · exact h.elim
  · rw [h]
    simp

/-! ### books on days -/
def IsB (v : Nat) (es : List Ent) (st : Sto) : Prop := st[v]? = some (.ins 6 [("entries", accD es)])
theorem IsB.app {v : Nat} {es : List Ent} {st : Sto} (h : IsB v es st) (t : Sto) : IsB v es (st ++ t) := by
  unfold IsB at h ⊢
  rw [List.getElem?_append_left (List.getElem?_eq_some_iff.mp h).1, h]
theorem IsB.new (es : List Ent) (st : Sto) : IsB st.length es (st ++ [.ins 6 [("entries", accD es)]]) := by unfold IsB; simp
theorem IsB.fld {v : Nat} {es : List Ent} {st : Sto} (h : IsB v es st) : fFld Ft_entries "entries" (.obj v) st = .ok (accD es) st := fFld_ok h rfl rfl
theorem call_ok {v : Nat} {es : List Ent} {st : Sto} (h : IsB v es st) (hl : es.length ≤ 100000) (w : Int) : s_Book___call__ [.obj v, .int w] st = .ok (.int (owedT es w)) st := by
  simp [s_Book___call__, m_Book___call__, startE, need_day_ok, h.fld, owedby_ok es hl]
theorem asof_ok {v : Nat} {es : List Ent} {st : Sto} (h : IsB v es st) (hv : Valid es) (hl : es.length ≤ 100000) (w : Int) : s_Book_as_of [.obj v, .int w] st = .ok (.obj st.length) (st ++ [.ins 6 [("entries", accD (upT es w))]]) := by
  have e2 : ∀ es st, star1 (.ok (accD es) st) = .ok (es.map Ent.D) st := fun _ _ => rfl
  have hv2 := upT_valid hv w
  have hl2 : (upT es w).length ≤ 100000 := by rw [upT_len]; exact hl
  simp [s_Book_as_of, m_Book_as_of, startE, need_day_ok, h.fld, up_ok es hl, e2, make_book (upT es w) hv2 hl2]
theorem account_ok {v : Nat} {es : List Ent} {st : Sto} (h : IsB v es st) : s_Book_account [.obj v] st = .ok (accD es) st := by
  simp [s_Book_account, m_Book_account, startE, h.fld]
theorem prop_account {v : Nat} {es : List Ent} {st : Sto} (h : IsB v es st) : fProp Pt_account (.obj v) st = .ok (accD es) st := by
  have hM : Pt_account 6 = some s_Book_account := rfl
  have h1 : st[v]? = some (.ins 6 [("entries", accD es)]) := h
  simp [fProp, insOf_ok h1, hM, account_ok h]
theorem isC_b {v : Nat} {es : List Ent} {st : Sto} (h : IsB v es st) : fIsC g 6 (.obj v) st = .ok (.bl true) st := by
  have h1 : st[v]? = some (.ins 6 [("entries", accD es)]) := h
  have e : g.sub 6 6 = some true := by decide
  simp [fIsC, cty, h1, e]
theorem need_book_ok {v : Nat} {es : List Ent} {st : Sto} (h : IsB v es st) : s_need_book [.obj v] st = .ok .non st := by
  simp [s_need_book, m_need_book, startE, isC_b h]
theorem smp_acc (es : List Ent) (hl : es.length ≤ 20000) (n : Nat) : Smp (n + 3) (accD es) := by
  refine ⟨by rw [List.length_map]; exact hl, fun x hx => ?_⟩
  obtain ⟨e, _, rfl⟩ := List.mem_map.mp hx
  cases e <;> refine ⟨by simp, fun y hy => ?_⟩ <;> simp only [List.mem_cons, List.not_mem_nil, or_false] at hy <;> rcases hy with rfl | rfl | rfl | rfl <;> trivial
theorem isvol_ok {v : Nat} {es : List Ent} {st : Sto} (h : IsB v es st) (hl : es.length ≤ 20000) : s__law_is_volume [.obj v, accD es] st = .ok (.bl true) st := by
  simp [s__law_is_volume, m__law_is_volume, startE, isC_b h, prop_account h, like_eq 8 (accD es) _ (smp_acc es hl 5)]
theorem never_ok {u v : Nat} {a b : List Ent} {st : Sto} (ha : IsB u a st) (hb : IsB v b st) (hl : a.length + b.length ≤ 4000) : s_Book_never_more [.obj u, .obj v] st = .ok (.bl (fmT a b).isNone) st := by
  simp [s_Book_never_more, m_Book_never_more, startE, need_book_ok hb, ha.fld, hb.fld, first_ok a b hl, isN_]
  cases fmT a b <;> rfl
theorem less_ok {u v : Nat} {a b : List Ent} {st : Sto} (ha : IsB u a st) (hb : IsB v b st) (hl : a.length + b.length ≤ 4000) : s_Book_less [.obj u, .obj v] st = .ok (.bl ((fmT a b).isNone && !(fmT b a).isNone)) st := by
  have isNo : ∀ d st, fNotN d .non st = .ok (.bl (match d with | .non => false | _ => true)) st := fun d st => by cases d <;> rfl
  simp [s_Book_less, m_Book_less, startE, need_book_ok hb, ha.fld, hb.fld, first_ok a b hl, first_ok b a (by omega), isN_]
  cases fmT a b with
  | none => simp [ha.fld, hb.fld, first_ok b a (by omega), isNo]; cases fmT b a <;> rfl
  | some d => simp
theorem nevermore_ok {a b : List Ent} {st : Sto} (ha : Valid a) (hb : Valid b) (hl : a.length + b.length ≤ 4000) : s_never_more [accD a, accD b] st = .ok (.bl (fmT a b).isNone) st := by
  simp [s_never_more, m_never_more, startE, need_acc a ha (by omega), need_acc b hb (by omega), first_ok a b hl, isN_]
  cases fmT a b <;> rfl
theorem ismanner_ok (days : Bool) (ch : Ch) (st : Sto) : s_is_manner [manD days ch] st = .ok (.bl true) st := by
  have m0 : ∀ st, inD false (.str (dayW days)) (.tup [.str "days", .str "entered"]) st = .ok (.bl true) st := fun st => by
    have h := inD_str (neg := false) (x := dayW days) (ws := ["days", "entered"]) (st := st)
    simp only [List.map_cons, List.map_nil] at h
    rw [h]
    cases days <;> simp [dayW]
  have m1 : ∀ st, inD false (.str ch.s) (.tup [.str "oldest", .str "newest", .str "greatest", .str "least"]) st = .ok (.bl true) st := fun st => by
    have h := inD_str (neg := false) (x := ch.s) (ws := ["oldest", "newest", "greatest", "least"]) (st := st)
    simp only [List.map_cons, List.map_nil] at h
    rw [h]
    cases ch <;> simp [Ch.s]
  have i0 : ∀ (a b : D) st, fIx (.tup [a, b]) (.int 0) st = .ok a st := fun _ _ _ => rfl
  have i1 : ∀ (a b : D) st, fIx (.tup [a, b]) (.int 1) st = .ok b st := fun _ _ _ => rfl
  simp [s_is_manner, m_is_manner, startE, manD, fIsB, bty, kind, isB, i0, i1, m0, m1]
theorem need_manner_ok (days : Bool) (ch : Ch) (st : Sto) : s_need_manner [manD days ch] st = .ok .non st := by
  simp [s_need_manner, m_need_manner, startE, ismanner_ok]
theorem laid_m_ok {v : Nat} {es : List Ent} {st : Sto} (h : IsB v es st) (hv : Valid es) (hl : es.length ≤ 200) (days : Bool) (ch : Ch) : s_Book_laid [.obj v, manD days ch] st = .ok (.lst ((layT es days ch).map pairD)) st := by
  simp [s_Book_laid, m_Book_laid, startE, need_manner_ok, h.fld, pairs_of_ok es hv hl]
theorem laid_ok {es : List Ent} {st : Sto} (hv : Valid es) (hl : es.length ≤ 200) (days : Bool) (ch : Ch) : s_laid [accD es, manD days ch] st = .ok (.lst ((layT es days ch).map pairD)) st := by
  simp [s_laid, m_laid, startE, need_acc es hv (by omega), need_manner_ok, pairs_of_ok es hv hl]

/-! ### the law on days -/
theorem okD_ints (l : List Int) (n : Nat) : okDs (l.map D.int) n = true := okDs_all fun d hd => by
  obtain ⟨x, _, rfl⟩ := List.mem_map.mp hd
  cases n <;> rfl
theorem turning_ok (es : List Ent) (hl : es.length ≤ 4000) (st : Sto) : s__law_turning_days [accD es] st = .ok (.lst ((turnT es).map D.int)) st := by
  have hacc : ∀ st, seqD (accD es) st = .ok (es.map Ent.D) st := fun _ => rfl
  simp [s__law_turning_days, m__law_turning_days, startE, hacc]
  generalize hX : lc1 _ _ _ _ _ _ _ = X
  have h := lc_gen Ent.D es Ent.live (fun e => .int e.day) hX (by omega) (by simp) (fun e _ => by simp [wipeE, ix_0, word_str]) (fun e _ h => by simp [wipeE, ix_1 h])
  subst h
  have hn : (daysT es).length ≤ 4000 := Nat.le_trans (daysT_len es) hl
  have hne : ∀ st, fNe (.lst ((daysT es).map D.int)) (.lst []) st = .ok (.bl (!((daysT es).map D.int).isEmpty)) st := fun st => fNe_lnil (okD_ints _ 60)
  simp [sortset_days es hl, hne]
  unfold turnT
  cases e : daysT es with
  | nil => simp
  | cons x xs =>
    rw [e] at hn
    have i0 : ∀ (ds : List D) st, fIx (.lst (.int x :: ds)) (.int 0) st = .ok (.int x) st := fun ds st => show fIx _ (.int ((0 : Nat) : Int)) st = _ from fIx_l (atI_nat rfl)
    have ad : ∀ (a : D) (ds : List D) st, ds.length ≤ 5000 → fAdd (.lst [a]) (.lst ds) st = .ok (.lst (a :: ds)) st := fun a ds st hd => fAdd_l (by simp; omega)
    simp at hn
    simp [i0, ad, hn]
    rw [ad _ _ _ (by simp; omega)]
    simp
theorem upT_law (es : List Ent) (w : Int) (st : Sto) (hl : es.length ≤ 100000) {x0 x2 x4 x5 x6 : SV} : lc1 false (Tg.nm 7) (eC (.bl true)) (eIf (eOr (eBin fEq (eBin fIx (eVar 7) (eC (.int 0))) (eC (.str "struck"))) (eBin fGt (eBin fIx (eVar 7) (eC (.int 1))) (eVar 3))) (eTup (aCons (eC (.str "struck")) aNil)) (eVar 7)) [7] [x0, .val (accD es), x2, .val (.int w), x4, x5, x6, .un] (.ok (es.map Ent.D) st) = .ok ((upT es w).map Ent.D) st := by
  generalize hX : lc1 _ _ _ _ _ _ _ = X
  have h := lc_gen Ent.D es (fun _ => true) (fun e => (if onT w e then e else .str).D) hX hl (by simp) (fun e _ => by simp) (fun e _ _ => by
    cases h1 : e.live with
    | false => simp [wipeE, ix_0, word_str, h1, onT]; rfl
    | true =>
      by_cases h2 : e.day ≤ w
      · have h3 : ¬ w < e.day := by omega
        simp [wipeE, ix_0, word_str, h1, ix_1 h1, h2, h3, onT]
      · have h3 : w < e.day := by omega
        simp [wipeE, ix_0, word_str, h1, ix_1 h1, h2, h3, onT]; rfl)
  subst h
  rw [List.filter_eq_self.mpr (fun _ _ => rfl)]
  simp [upT]
theorem like_i (i : Int) (st : Sto) : s__law_like_ 8 [.int i, .int i] st = .ok (.bl true) st := like_eq 8 (.int i) st trivial
theorem ondays_ok {v : Nat} {es : List Ent} (hv : Valid es) (hl : es.length ≤ 1000) (ws : List Int) (st : Sto) (h : IsB v es st) : ∃ t, s__law_on_days [.obj v, accD es, .lst (ws.map D.int)] st = .ok (.bl true) (st ++ t) := by
  have hacc : ∀ st, seqD (accD es) st = .ok (es.map Ent.D) st := fun _ => rfl
  have hws : ∀ st, seqD (.lst (ws.map D.int)) st = .ok (ws.map D.int) st := fun _ => rfl
  simp [s__law_on_days, m__law_on_days, startE, hws]
  generalize hX : forGo _ _ _ _ _ = X
  obtain ⟨e, s, rfl, x3, x4, x5, x6, t, rfl, rfl⟩ := for_inv hX (fun n env s => ∃ x3 x4 x5 x6 t, env = [.val (.obj v), .val (accD es), .val (.lst (ws.map D.int)), x3, x4, x5, x6, .un] ∧ s = st ++ t) ⟨.un, .un, .un, .un, [], rfl, by simp⟩ (by
    rintro n x env s hx ⟨x3, x4, x5, x6, t, rfl, rfl⟩
    rw [List.getElem?_map] at hx
    obtain ⟨w, hw, rfl⟩ := Option.map_eq_some_iff.mp hx
    have h1 : IsB v es (st ++ t) := h.app t
    generalize hs1 : st ++ t = s1 at h1
    have hup : (upT es w).length ≤ 20000 := by rw [upT_len]; omega
    have huv := upT_valid hv w
    have h2 : IsB v es (s1 ++ [.ins 6 [("entries", accD (upT es w))]]) := h1.app _
    have h3 := IsB.new (upT es w) s1
    generalize hs2 : s1 ++ [.ins 6 [("entries", accD (upT es w))]] = s2 at h2 h3
    have h4 : IsB v es (s2 ++ [.ins 6 [("entries", accD (upT es w))]]) := h2.app _
    have h5 : IsB s1.length (upT es w) (s2 ++ [.ins 6 [("entries", accD (upT es w))]]) := h3.app _
    have h6 := IsB.new (upT es w) s2
    have a1 := asof_ok h1 hv (by omega) w
    rw [hs2] at a1
    have a2 := asof_ok h2 hv (by omega) w
    generalize hs3 : s2 ++ [.ins 6 [("entries", accD (upT es w))]] = s3 at a2 h4 h5 h6
    refine ⟨_, rfl, _, _, .inl ?_, .val (.int w), .val (.int (owedT es w)), .val (accD (upT es w)), .val (.obj s1.length), t ++ [.ins 6 [("entries", accD (upT es w))]] ++ [.ins 6 [("entries", accD (upT es w))]], rfl, rfl⟩
    have c1 : ∀ env ma, inst1 Mt_call ma env (.ok (.obj v) s1) = inst2 s_Book___call__ v 6 (ma env s1) := fun env ma => inst1_ok h1 rfl
    have c3 : ∀ env ma, inst1 (fun cc => Option.map (fun sem ds st => if ds.length = 2 then sem ds st else .bad) (Mk_0 cc)) ma env (.ok (.obj v) s1) = inst2 (fun ds st => if ds.length = 2 then permFS [0, 1] s_Book___call__ ds st else .bad) v 6 (ma env s1) := fun env ma => inst1_ok h1 rfl
    have c4 : ∀ sem xs, inst2 sem v 6 (.ok xs s1) = sem (.obj v :: xs) s1 := fun sem xs => inst2_ok h1
    have c5 : permFS [0, 1] s_Book___call__ [.obj v, .int w] s1 = .ok (.int (owedT es w)) s1 := (call_ok h1 (by omega) w)
    have m1 : ∀ env ma, meth1 "as_of" Mt_as_of ma env (.ok (.obj v) s1) = call1 (fun xs st2 => s_Book_as_of (.obj v :: xs) st2) (ma env s1) := fun env ma => meth1_ok h1 rfl rfl
    have m2 : ∀ env ma mk, methK1 "as_of" 0 1 Mk_1 ma mk env (.ok (.obj v) s2) = methK2 0 1 (permFS [0, 1] s_Book_as_of) v mk env (ma env s2) := fun env ma mk => methK1_ok h2 rfl rfl
    have m3 : permFS [0, 1] s_Book_as_of [.obj v, .int w] s2 = .ok (.obj s2.length) s3 := a2
    have c6 : ∀ env ma, inst1 Mt_call ma env (.ok (.obj s1.length) s3) = inst2 s_Book___call__ s1.length 6 (ma env s3) := fun env ma => inst1_ok h5 rfl
    have c7 : ∀ sem xs, inst2 sem s1.length 6 (.ok xs s3) = sem (.obj s1.length :: xs) s3 := fun sem xs => inst2_ok h5
    have e7 : owedT (upT es w) w = owedT es w := by unfold owedT; rw [upT_lev]
    have lk : ∀ (n : Int) st, s__law_like_ 8 [.lst [.int n, .int n], .lst [.int n, .int n]] st = .ok (.bl true) st := fun n st => like_eq 8 _ st ⟨by simp, fun x hx => by
      simp only [List.mem_cons, List.not_mem_nil, or_false] at hx
      rcases hx with rfl | rfl <;> trivial⟩
    have hl2 : (upT es w).length ≤ 100000 := by omega
    have k1 := call_ok h1 (by omega) w
    have k2 := call_ok h5 (by omega) w
    have v1 := isvol_ok h5 hup
    have v2 := isvol_ok h6 hup
    have v0 := isvol_ok h3 hup
    have ow := owed_ok es hv (by omega) w s3
    have ht : ∀ st, fTupOf (.lst ((upT es w).map Ent.D)) st = .ok (accD (upT es w)) st := fun _ => rfl
    rw [e7] at k2
    unfold owedT at k1 k2 c5 ow
    simp [level_ok, like_i, c1, c3, c4, c5, k1, upT_law es w _ (by omega : es.length ≤ 100000), hacc, ht, m1, a1, v0, m2, m3, v2, c6, c7, k2, ow, lk]
    exact ⟨rfl, by rw [← hs3, ← hs2, ← hs1]; simp⟩)
  exact ⟨t, by simp⟩

/-! ### the other account -/
def isBP : Ent → Bool
  | .bill _ _ => true | .pay _ _ => true | _ => false
def bpT (es : List Ent) : List Nat := (List.range es.length).filter fun i => isBP (at_ es i)
theorem word_bp (e : Ent) (st : Sto) : inD false (.str e.word) (.tup [.str "bill", .str "pay"]) st = .ok (.bl (isBP e)) st := by
  have h := inD_str (neg := false) (x := e.word) (ws := ["bill", "pay"]) (st := st)
  simp only [List.map_cons, List.map_nil] at h
  rw [h]
  cases e <;> simp [Ent.word, isBP, w_bp, w_pb, w_bn, w_pn, w_bs, w_ps]
def namesC (es : List Ent) (c : Nat) : Bool := es.any fun e => match e with
  | .nam _ _ k => decide (k = (c : Int))
  | _ => false
theorem valid_set {es : List Ent} (hv : Valid es) {c : Nat} {x : Ent} (hn : namesC es c = false) (hx : x.s1) (hx2 : ∀ d s k, x ≠ .nam d s k) : Valid (es.set c x) where
  s1 e he := by
    rcases List.mem_or_eq_of_mem_set he with h | rfl
    · exact hv.s1 e h
    · exact hx
  nm e he := by
    rcases List.mem_or_eq_of_mem_set he with h | rfl
    · have := hv.nm e h
      cases e with
      | nam d s k =>
        obtain ⟨h0, d', s', h1, h2⟩ := this
        refine ⟨h0, d', s', ?_, h2⟩
        have hk : ¬ k = (c : Int) := fun z => by
          have : namesC es c = true := List.any_eq_true.mpr ⟨_, h, by simp [z]⟩
          rw [hn] at this; cases this
        rw [List.getElem?_set_ne (by omega)]
        exact h1
      | _ => trivial
    · cases e with
      | nam d s k => exact absurd rfl (hx2 d s k)
      | _ => trivial
theorem valid_app {es : List Ent} (hv : Valid es) {x : Ent} (hx : x.s1) (hx2 : ∀ d s k, x ≠ .nam d s k) : Valid (es ++ [x]) where
  s1 e he := by
    rcases List.mem_append.mp he with h | h
    · exact hv.s1 e h
    · rw [List.mem_singleton.mp h]; exact hx
  nm e he := by
    rcases List.mem_append.mp he with h | h
    · have := hv.nm e h
      cases e with
      | nam d s k =>
        obtain ⟨h0, d', s', h1, h2⟩ := this
        exact ⟨h0, d', s', by rw [List.getElem?_append_left (List.getElem?_eq_some_iff.mp h1).1]; exact h1, h2⟩
      | _ => trivial
    · rw [List.mem_singleton.mp h]
      cases x with
      | nam d s k => exact absurd rfl (hx2 d s k)
      | _ => trivial
theorem spots_ok (es : List Ent) (hl : es.length ≤ 1000) (st : Sto) {x0 x2 x3 x4 x5 x6 x7 x9 : SV} : lc1 false (Tg.nm 8) (eBin (inD false) (eBin fIx (eBin fIx (eVar 1) (eVar 8)) (eC (.int 0))) (eTup (aCons (eC (.str "bill")) (aCons (eC (.str "pay")) aNil)))) (eVar 8) [8] [x0, .val (accD es), x2, x3, x4, x5, x6, x7, .un, x9] (.ok ((List.range es.length).map natD) st) = .ok ((bpT es).map natD) st := by
  generalize hX : lc1 _ _ _ _ _ _ _ = X
  have h := lc_gen natD (List.range es.length) (fun i => isBP (at_ es i)) natD hX (by simp; omega) (by simp) (fun i hi => by
    have hi := List.mem_range.mp hi
    simp [wipeE, ix_accN hi, ix_0, word_bp]) (fun i _ _ => by simp [wipeE])
  subst h
  rfl
theorem names_lc (es : List Ent) (hl : es.length ≤ 1000) (c : Nat) (st : Sto) {x0 x2 x3 x5 x6 x7 x8 : SV} : ∃ bs : List Bool, lc1 false (Tg.nm 9) (eC (.bl true)) (eAnd (eBin fEq (eBin fIx (eVar 9) (eC (.int 0))) (eC (.str "named"))) (eBin fEq (eBin fIx (eVar 9) (eC (.int 3))) (eVar 4))) [9] [x0, .val (accD es), x2, x3, .val (natD c), x5, x6, x7, x8, .un] (.ok (es.map Ent.D) st) = .ok (bs.map D.bl) st ∧ bs.any id = namesC es c := by
  refine ⟨es.map fun e => match e with | .nam _ _ k => decide (k = (c : Int)) | _ => false, ?_, by unfold namesC; rw [List.any_map]; rfl⟩
  generalize hX : lc1 _ _ _ _ _ _ _ = X
  have h := lc_gen Ent.D es (fun _ => true) (fun e => .bl (match e with | .nam _ _ k => decide (k = (c : Int)) | _ => false)) hX (by omega) (by simp) (fun i _ => rfl) (fun e _ _ => by
    cases e <;> simp [wipeE, ix_0, ix_3, Ent.word, w_bn, w_pn, w_sn, natD])
  subst h
  rw [List.filter_eq_self.mpr (fun _ _ => rfl), List.map_map]
  rfl
theorem any_bl (bs : List Bool) (st : Sto) : fAny (.lst (bs.map D.bl)) st = .ok (.bl (bs.any id)) st := by
  have : blsD (bs.map D.bl) = some bs := by
    induction bs with
    | nil => rfl
    | cons b bs ih => simp only [List.map_cons, blsD, ih]; rfl
  simp only [fAny, lsOf, Option.bind, this]

theorem cut_to {α : Type} (xs : List α) (c : Nat) : cutD xs none (some (c : Int)) = xs.take c := by
  unfold cutD
  rw [HT.sIx_nat, HT.sIx_none]
  simp
theorem cut_from {α : Type} (xs : List α) (c : Nat) : cutD xs (some (c : Int)) none = xs.drop c := by
  unfold cutD
  rw [HT.sIx_nat, HT.sIx_none]
  rw [List.take_of_length_le (by simp)]
  by_cases h : c ≤ xs.length
  · rw [Nat.min_eq_left h]
  · rw [Nat.min_eq_right (by omega), List.drop_of_length_le (Nat.le_refl _), List.drop_of_length_le (by omega)]
theorem set_take_drop {α : Type} {xs : List α} {c : Nat} {x : α} (h : c < xs.length) : xs.take c ++ x :: xs.drop (c + 1) = xs.set c x := by
  rw [List.set_eq_take_append_cons_drop, if_pos h]
theorem other_ok {j n : Nat} {st : Sto} {es : List Ent} (h : Jar j (n + 8000) st) (hv : Valid es) (hl : es.length ≤ 100) : ∃ es2 st', s__law_other [.obj j, accD es] st = .ok (accD es2) st' ∧ Valid es2 ∧ es2.length ≤ 101 ∧ Jar j n st' ∧ Fr j st st' := by
  obtain ⟨k1, s1, p1, q1, q1', j1, f1⟩ := pick_ok (n := n + 7500) (many := 4) (h.mono (by omega)) (by omega) (by decide +kernel)
  obtain ⟨es3, s2, p2, l2, a2, j2, f2⟩ := any_ok (n := n) (many := 9) (j1.mono (by omega)) (by omega) (by omega)
  have len : ∀ st, fLen (accD es) st = .ok (.int (es.length : Int)) st := fun st => len_acc es st
  have hr : ∀ st, r11 (.ok (.int (es.length : Int)) st) = .ok ((List.range es.length).map natD) st := fun st => r11_acc (by omega) st
  by_cases c0 : k1 = 0 ∨ bpT es = []
  · refine ⟨es3, s2, ?_, a2.valid, by omega, j2, f1.trans f2⟩
    rcases c0 with rfl | c0
    · simp [s__law_other, m__law_other, startE, p1, len, hr, spots_ok es (by omega), p2]
    · have e0 : ∀ st, fEq (.lst ([] : List D)) (.lst []) st = .ok (.bl true) st := fun st => fEq_lnil rfl
      by_cases z : k1 = 0
      · subst z
        simp [s__law_other, m__law_other, startE, p1, len, hr, spots_ok es (by omega), p2]
      · simp [s__law_other, m__law_other, startE, p1, len, hr, spots_ok es (by omega), p2, c0, e0, z]
  · have c1 : k1 ≠ 0 := fun z => c0 (.inl z)
    have c2 : bpT es ≠ [] := fun z => c0 (.inr z)
    have hpos : 0 < (bpT es).length := List.length_pos_iff.mpr c2
    have hbl : (bpT es).length ≤ es.length := by
      unfold bpT
      exact Nat.le_trans (List.length_filter_le _ _) (by simp)
    have e0 : ∀ st, fEq (.lst ((bpT es).map natD)) (.lst []) st = .ok (.bl false) st := fun st => by
      rw [fEq_nats]
      cases q : bpT es with
      | nil => exact absurd q c2
      | cons a as => rfl
    obtain ⟨k3, s3, p3, q3, q3', j3, f3⟩ := pick_ok (n := n + 7000) (many := ((bpT es).length : Int)) (j1.mono (by omega)) (by omega) (Int.le_trans (by omega : ((bpT es).length : Int) ≤ 1000) (by decide +kernel))
    obtain ⟨c, hc⟩ := Int.eq_ofNat_of_zero_le q3
    subst hc
    have hcl : c < (bpT es).length := by omega
    obtain ⟨m, hm⟩ : ∃ m, (bpT es)[c]? = some m := ⟨_, List.getElem?_eq_getElem hcl⟩
    have hmem := List.mem_of_getElem? hm
    unfold bpT at hmem
    obtain ⟨hm1, hm2⟩ := List.mem_filter.mp hmem
    have hml := List.mem_range.mp hm1
    have ixm : ∀ st, fIx (.lst ((bpT es).map natD)) (.int (c : Int)) st = .ok (natD m) st := fun st => ix_nats hm
    have ll : ∀ st, fLen (.lst ((bpT es).map natD)) st = .ok (.int ((bpT es).length : Int)) st := fun st => by simp [fLen, lsOf]
    by_cases w1 : k1 = 1
    · obtain ⟨k4, s4, p4, q4, q4', j4, f4⟩ := pick_ok (n := n + 6000) (many := 3) (j3.mono (by omega)) (by omega) (by decide +kernel)
      obtain ⟨k5, s5, p5, q5, q5', j5, f5⟩ := pick_ok (n := n + 5000) (many := 2) (j4.mono (by omega)) (by omega) (by decide +kernel)
      obtain ⟨k6, s6, p6, q6, q6', j6, f6⟩ := pick_ok (n := n + 4000) (many := 3) (j5.mono (by omega)) (by omega) (by decide +kernel)
      have hlv : (at_ es m).live = true := by cases e : at_ es m <;> rw [e] at hm2 <;> first | rfl | cases hm2
      have k5c : k5 = 0 ∨ k5 = 1 := by omega
      have hx : ∃ x : Ent, x.s1 ∧ (∀ d s k, x ≠ .nam d s k) ∧ ∀ st, fIx (.lst [.str "bill", .str "pay"]) (.int k5) st = .ok (.str x.word) st ∧ x.D = .tup [.str x.word, .int ((at_ es m).day + k4 - 1), .int (1 + k6)] := by
        rcases k5c with rfl | rfl
        · exact ⟨.bill ((at_ es m).day + k4 - 1) (1 + k6), by simp only [Ent.s1]; omega, (fun _ _ _ z => nomatch z), fun st => ⟨rfl, rfl⟩⟩
        · exact ⟨.pay ((at_ es m).day + k4 - 1) (1 + k6), by simp only [Ent.s1]; omega, (fun _ _ _ z => nomatch z), fun st => ⟨rfl, rfl⟩⟩
      obtain ⟨x, x1, x2, x3⟩ := hx
      refine ⟨es ++ [x], s6, ?_, valid_app hv x1 x2, by simp; omega, j6.mono (by omega), ((((f1.trans f3).trans f4).trans f5).trans f6)⟩
      have ad : ∀ st, fAdd (accD es) (.tup [.tup [.str x.word, .int ((at_ es m).day + k4 - 1), .int (1 + k6)]]) st = .ok (accD (es ++ [x])) st := fun st => by
        rw [← (x3 st).2]
        exact accD_app es [x] (by simp; omega) st
      simp [s__law_other, m__law_other, startE, p1, len, hr, spots_ok es (by omega), e0, c1, w1, ll, p3, ixm, ix_accN hml, ix_1 hlv, p4, p5, (x3 _).1, p6, ad]
    · have hlv : (at_ es m).live = true := by cases e : at_ es m <;> rw [e] at hm2 <;> first | rfl | cases hm2
      have hge := at_lt hml
      have hs1 := hv.s1 _ (List.mem_of_getElem? hge)
      have hx : ∃ x : Ent, x.s1 ∧ (∀ d s k, x ≠ .nam d s k) ∧ x.D = if k1 = 2 then .tup [.str (at_ es m).word, .int (at_ es m).day, .int ((at_ es m).amt + 1)] else .tup [.str "struck"] := by
        by_cases w2 : k1 = 2
        · rw [if_pos w2]
          cases e : at_ es m with
          | bill d s => rw [e] at hs1; exact ⟨.bill d (s + 1), by simp only [Ent.s1] at hs1 ⊢; omega, (fun _ _ _ z => nomatch z), rfl⟩
          | pay d s => rw [e] at hs1; exact ⟨.pay d (s + 1), by simp only [Ent.s1] at hs1 ⊢; omega, (fun _ _ _ z => nomatch z), rfl⟩
          | str => rw [e] at hm2; cases hm2
          | nam d s k => rw [e] at hm2; cases hm2
        · rw [if_neg w2]
          exact ⟨.str, trivial, (fun _ _ _ z => nomatch z), rfl⟩
      obtain ⟨x, x1, x2, x3⟩ := hx
      have hacc : ∀ st, seqD (accD es) st = .ok (es.map Ent.D) st := fun _ => rfl
      have hcut1 : ∀ st, fSl (accD es) none (some (m : Int)) st = .ok (accD (es.take m)) st := fun st => by
        simp only [accD, fSl_t, cut_to, List.map_take]
      have hcut2 : ∀ st, fSl (accD es) (some ((m : Int) + 1)) none st = .ok (accD (es.drop (m + 1))) st := fun st => by
        have e1 : ((m : Int) + 1) = ((m + 1 : Nat) : Int) := by omega
        simp only [accD, fSl_t, e1, cut_from, List.map_drop]
      have had1 : ∀ st, fAdd (accD (es.take m)) (.tup [x.D]) st = .ok (accD (es.take m ++ [x])) st := fun st => accD_app (es.take m) [x] (by simp; omega) st
      have had2 : ∀ st, fAdd (accD (es.take m ++ [x])) (accD (es.drop (m + 1))) st = .ok (accD (es.set m x)) st := fun st => by
        rw [accD_app _ _ (by simp; omega), List.append_assoc, List.singleton_append, set_take_drop hml]
      have hos : ∀ st, osome1 (.ok (natD m) st) = .ok (some (m : Int)) st := fun _ => rfl
      have ha1 : ∀ st, fAdd (natD m) (.int 1) st = .ok (.int ((m : Int) + 1)) st := fun _ => rfl
      obtain ⟨es2, r1, r2, r3⟩ : ∃ es2, es2 = (if namesC es m = true then es else es.set m x) ∧ Valid es2 ∧ es2.length ≤ 101 := by
        refine ⟨_, rfl, ?_⟩
        split
        · exact ⟨hv, by omega⟩
        · rename_i z
          exact ⟨valid_set hv (by simpa using z) x1 x2, by simp; omega⟩
      refine ⟨es2, s3, ?_, r2, r3, j3.mono (by omega), f1.trans f3⟩
      subst r1
      by_cases w2 : k1 = 2
      · subst w2
        rw [if_pos rfl] at x3
        obtain ⟨bs, b1, b2⟩ := names_lc es (by omega) m s3 (x0 := .val (.obj j)) (x2 := .val (.int 2)) (x3 := .val (.lst ((bpT es).map natD))) (x5 := .val (at_ es m).D) (x6 := .un) (x7 := .val x.D) (x8 := .un)
        simp [s__law_other, m__law_other, startE, p1, len, hr, spots_ok es (by omega), e0, ll, p3, ixm, ix_accN hml, ix_0, ix_1 hlv, ix_2 hlv, ← x3, hacc, b1, any_bl, b2]
        cases namesC es m with
        | true => simp
        | false => simp [hcut1, hcut2, had1, had2, ha1, hos]
      · rw [if_neg w2] at x3
        obtain ⟨bs, b1, b2⟩ := names_lc es (by omega) m s3 (x0 := .val (.obj j)) (x2 := .val (.int k1)) (x3 := .val (.lst ((bpT es).map natD))) (x5 := .val (at_ es m).D) (x6 := .un) (x7 := .val x.D) (x8 := .un)
        simp [s__law_other, m__law_other, startE, p1, len, hr, spots_ok es (by omega), e0, c1, w1, w2, ll, p3, ixm, ix_accN hml, ix_0, ix_1 hlv, ix_2 hlv, ← x3, hacc, b1, any_bl, b2]
        cases namesC es m with
        | true => simp
        | false => simp [hcut1, hcut2, had1, had2, ha1, hos]

theorem IsB.lt {v : Nat} {es : List Ent} {st : Sto} (h : IsB v es st) : v < st.length := (List.getElem?_eq_some_iff.mp h).1
theorem IsB.fr {v j : Nat} {es : List Ent} {st st' : Sto} (h : IsB v es st) (f : Fr j st st') (hj : v ≠ j) : IsB v es st' := by
  unfold IsB at h ⊢
  rw [f.get v hj (List.getElem?_eq_some_iff.mp h).1, h]
theorem IsB.set {v k : Nat} {es : List Ent} {st : Sto} {mo : MO} (h : IsB v es st) (hk : k ≠ v) : IsB v es (st.set k mo) := by
  unfold IsB at h ⊢
  rw [List.getElem?_set_ne hk, h]
theorem layT_len {es : List Ent} (hv : Valid es) (hl : es.length ≤ 100) (days : Bool) (ch : Ch) : (layT es days ch).length ≤ 10000 := by
  unfold layT sortP
  rw [List.length_mergeSort]
  have h := (goT_len (ch := ch) hv (stepsT es days) (List.replicate es.length 0) [] fun i hi => stepsT_live hi).2
  have hsl : (stepsT es days).length ≤ es.length := by
    unfold stepsT
    cases days with
    | true => exact lineT_len es
    | false => exact Nat.le_trans (Nat.le_of_eq (enteredT_perm es).length_eq) (lineT_len es)
  refine Nat.le_trans h ?_
  simp only [List.length_nil, Nat.zero_add]
  exact Nat.le_trans (Nat.mul_le_mul (Nat.le_trans hsl hl) hl) (by decide)
theorem smp_pairs (ps : List PairT) (hl : ps.length ≤ 20000) (n : Nat) : Smp (n + 3) (.lst (ps.map pairD)) := by
  refine ⟨by rw [List.length_map]; exact hl, fun x hx => ?_⟩
  obtain ⟨p, _, rfl⟩ := List.mem_map.mp hx
  refine ⟨by simp, fun y hy => ?_⟩
  simp only [List.mem_cons, List.not_mem_nil, or_false] at hy
  rcases hy with rfl | rfl | rfl <;> trivial
theorem smp_bl (bs : List Bool) (hl : bs.length ≤ 20000) (n : Nat) : Smp (n + 2) (.lst (bs.map D.bl)) := by
  refine ⟨by rw [List.length_map]; exact hl, fun x hx => ?_⟩
  obtain ⟨p, _, rfl⟩ := List.mem_map.mp hx
  trivial
theorem rule_ok {j n : Nat} {st : Sto} (h : Jar j (n + 2) st) : ∃ days ch st', s__law_rule [.obj j] st = .ok (manD days ch) st' ∧ Jar j n st' ∧ Fr j st st' := by
  obtain ⟨k1, s1, p1, q1, q1', j1, f1⟩ := pick_ok (n := n + 1) (many := 2) h (by omega) (by decide +kernel)
  obtain ⟨k2, s2, p2, q2, q2', j2, f2⟩ := pick_ok (n := n) (many := 4) j1 (by omega) (by decide +kernel)
  have h1 : ∃ days, ∀ st, fIx (.lst [.str "days", .str "entered"]) (.int k1) st = .ok (.str (dayW days)) st := by
    rcases (by omega : k1 = 0 ∨ k1 = 1) with rfl | rfl
    · exact ⟨true, fun _ => rfl⟩
    · exact ⟨false, fun _ => rfl⟩
  have h2 : ∃ ch : Ch, ∀ st, fIx (.lst [.str "oldest", .str "newest", .str "greatest", .str "least"]) (.int k2) st = .ok (.str ch.s) st := by
    rcases (by omega : k2 = 0 ∨ k2 = 1 ∨ k2 = 2 ∨ k2 = 3) with rfl | rfl | rfl | rfl
    · exact ⟨.old, fun _ => rfl⟩
    · exact ⟨.new, fun _ => rfl⟩
    · exact ⟨.gre, fun _ => rfl⟩
    · exact ⟨.lea, fun _ => rfl⟩
  obtain ⟨days, h1⟩ := h1
  obtain ⟨ch, h2⟩ := h2
  refine ⟨days, ch, s2, ?_, j2, f1.trans f2⟩
  simp [s__law_rule, m__law_rule, startE, p1, p2, h1, h2, manD]
theorem all_bl (bs : List Bool) (st : Sto) : fAll (.lst (bs.map D.bl)) st = .ok (.bl (bs.all id)) st := by
  have : blsD (bs.map D.bl) = some bs := by
    induction bs with
    | nil => rfl
    | cons b bs ih => simp only [List.map_cons, blsD, ih]; rfl
  simp only [fAll, lsOf, Option.bind, this]

theorem one_ok (cell : Int) (st : Sto) : ∃ st', s__law_one [.int cell] st = .ok (.bl true) st' := by
  obtain ⟨s1, p1, j1, f1⟩ := bag1 cell st
  obtain ⟨j, hj⟩ : ∃ j, j = st.length := ⟨_, rfl⟩
  rw [← hj] at p1 j1
  obtain ⟨k1, s2, p2, q2, q2', j2, f2⟩ := pick_ok (n := 30000) (many := 4) (j1.mono (by decide)) (by decide) (by decide +kernel)
  obtain ⟨lim, hlim, hl1, hl2⟩ : ∃ lim : Int, (∀ st, fIx (.lst [D.int 4, .int 9, .int 9, .int 31]) (.int k1) st = .ok (.int lim) st) ∧ 0 < lim ∧ lim ≤ 31 := by
    rcases (by omega : k1 = 0 ∨ k1 = 1 ∨ k1 = 2 ∨ k1 = 3) with rfl | rfl | rfl | rfl
    · exact ⟨4, fun _ => rfl, by decide, by decide⟩
    · exact ⟨9, fun _ => rfl, by decide, by decide⟩
    · exact ⟨9, fun _ => rfl, by decide, by decide⟩
    · exact ⟨31, fun _ => rfl, by decide, by decide⟩
  obtain ⟨es, s3, p3, l3, a3, j3, f3⟩ := any_ok (n := 20000) (many := lim) (j2.mono (by decide)) hl1 (by omega)
  have hel : es.length ≤ 30 := by omega
  have hva := a3.valid
  obtain ⟨fs, s4, p4, hvb, hfl, j4, f4⟩ := other_ok (n := 10000) (j3.mono (by decide)) hva (by omega)
  have pa := accD_app es fs (by omega) s4
  have hab : (es ++ fs).length ≤ 200 := by rw [List.length_append]; omega
  have pt := turning_ok (es ++ fs) (by omega) s4
  obtain ⟨T, hT⟩ : ∃ T, T = turnT (es ++ fs) := ⟨_, rfl⟩
  have hTne : T ≠ [] := by rw [hT]; exact turn_ne _
  have hTl : T.length ≤ 201 := by rw [hT]; exact Nat.le_trans (turnT_len _) (by omega)
  have hTm : ∀ d ∈ daysT (es ++ fs), d ∈ T := fun d hd => by rw [hT]; exact turn_mem hd
  rw [← hT] at pt
  obtain ⟨l, hl⟩ : ∃ l, T.getLast? = some l := ⟨_, List.getLast?_eq_some_getLast hTne⟩
  have ixl : ∀ st, fIx (.lst (T.map D.int)) (.int (-1)) st = .ok (.int l) st := fun st => by
    refine fIx_l ?_
    have h0 : 0 < T.length := List.length_pos_iff.mpr hTne
    unfold L2.atI
    have e : L2.ixN (T.map D.int).length (-1) = some (T.length - 1) := by
      unfold L2.ixN
      rw [List.length_map]
      simp
      omega
    rw [e]
    rw [List.getLast?_eq_getElem?] at hl
    simp [List.getElem?_map, hl]
  obtain ⟨S, hS⟩ : ∃ S : List Int, S = T ++ [l + 1, 1000000] := ⟨_, rfl⟩
  have hSl : S.length ≤ 203 := by rw [hS]; simp; omega
  have hSp : 0 < S.length := by rw [hS]; simp
  have hSm : ∀ d ∈ daysT (es ++ fs), d ∈ S := fun d hd => by rw [hS]; exact List.mem_append_left _ (hTm d hd)
  have pS : ∀ st, fAdd (.lst (T.map D.int)) (.lst [.int (l + 1), .int 1000000]) st = .ok (.lst (S.map D.int)) st := fun st => by
    rw [fAdd_l (by simp; omega), hS]; simp
  have pv := volume_ok es hva (by omega) s4
  have hvv := IsB.new es s4
  obtain ⟨v, hv⟩ : ∃ v, v = s4.length := ⟨_, rfl⟩
  obtain ⟨s5, hs5⟩ : ∃ s5, s5 = s4 ++ [MO.ins 6 [("entries", accD es)]] := ⟨_, rfl⟩
  have j5 : Jar j 10000 s5 := by rw [hs5]; exact j4.app _
  have hjv : v ≠ j := by have := j4.lt; omega
  rw [← hv, ← hs5] at pv hvv
  have pu := volume_ok fs hvb (by omega) s5
  have huu := IsB.new fs s5
  obtain ⟨u, hu⟩ : ∃ u, u = s5.length := ⟨_, rfl⟩
  obtain ⟨s6, hs6⟩ : ∃ s6, s6 = s5 ++ [MO.ins 6 [("entries", accD fs)]] := ⟨_, rfl⟩
  have j6 : Jar j 10000 s6 := by rw [hs6]; exact j5.app _
  have hju : u ≠ j := by have := j5.lt; omega
  rw [← hu, ← hs6] at pu huu
  have hv6 : IsB v es s6 := by rw [hs6]; exact hvv.app _
  clear hvv
  -- the days drawn
  have hm : (0 : Int) < (S.length : Int) := by omega
  have hm2 : (S.length : Int) ≤ 10 ^ 1000 := Int.le_trans (by omega : (S.length : Int) ≤ 1000) (by decide +kernel)
  have ixS : ∀ k : Int, 0 ≤ k → k < (S.length : Int) → ∃ w, ∀ st, fIx (.lst (S.map D.int)) (.int k) st = .ok (.int w) st := fun k h1 h2 => by
    obtain ⟨n, rfl⟩ := Int.eq_ofNat_of_zero_le h1
    refine ⟨S[n]'(by omega), fun st => fIx_l (atI_nat (by rw [List.getElem?_map, List.getElem?_eq_getElem]; rfl))⟩
  obtain ⟨k7, s7, p7, q7, q7', j7, f7⟩ := pick_ok (n := 9000) (many := (S.length : Int)) (j6.mono (by decide)) hm hm2
  obtain ⟨w7, i7⟩ := ixS k7 q7 q7'
  obtain ⟨k8, s8, p8, q8, q8', j8, f8⟩ := pick_ok (n := 8000) (many := (S.length : Int)) (j7.mono (by decide)) hm hm2
  obtain ⟨w8, i8⟩ := ixS k8 q8 q8'
  have hv8 := (hv6.fr f7 hjv).fr f8 hjv
  have hu8 := (huu.fr f7 hju).fr f8 hju
  obtain ⟨t8, p9⟩ := ondays_ok hva (by omega) [w7, w8, -1000000] s8 hv8
  have j9 := j8.app t8
  have hv9 := hv8.app t8
  have hu9 := hu8.app t8
  generalize s8 ++ t8 = s9 at p9 j9 hv9 hu9
  obtain ⟨k10, s10, p10, q10, q10', j10, f10⟩ := pick_ok (n := 7000) (many := (S.length : Int)) (j9.mono (by decide)) hm hm2
  obtain ⟨w10, i10⟩ := ixS k10 q10 q10'
  have hv10 := hv9.fr f10 hjv
  have hu10 := hu9.fr f10 hju
  obtain ⟨t10, p11⟩ := ondays_ok hvb (by omega) [w10] s10 hu10
  have j11 := j10.app t10
  have hv11 := hv10.app t10
  have hu11 := hu10.app t10
  generalize s10 ++ t10 = s11 at p11 j11 hv11 hu11
  have ll : ∀ st, fLen (.lst (S.map D.int)) st = .ok (.int (S.length : Int)) st := fun st => by simp [fLen, lsOf]
  simp only [List.map_cons, List.map_nil] at p9 p11
  simp [s__law_one, m__law_one, startE, p1, p2, hlim, p3, p4, pa, pt, ixl, pS, pv, pu, ll, p7, i7, p8, i8, p9, p10, i10, p11]
  have hSi : ∀ st, seqD (.lst (S.map D.int)) st = .ok (S.map D.int) st := fun _ => rfl
  generalize hX : lc1 _ _ _ _ _ _ _ = X
  have h := lc_gen accD [es, fs] (fun _ => true) (fun rows => .lst (S.map fun w => .int (owedT rows w))) hX (by simp) (by simp) (fun _ _ => rfl) (fun rows _ _ => by
    simp [wipeE, hSi]
    generalize hY : lc1 _ _ _ _ _ _ _ = Y
    have h := lc_gen D.int S (fun _ => true) (fun w => .int (owedT rows w)) hY (by omega) (by simp) (fun _ _ => rfl) (fun w _ _ => by
      simp [wipeE, level_ok, owedT])
    subst h
    rw [List.filter_eq_self.mpr (fun _ _ => rfl)]
    rfl)
  subst h
  clear hX
  have r2 : ∀ st, r11 (.ok (.int 2) st) = .ok ([0, 1].map natD) st := fun _ => rfl
  simp [r2]
  generalize hX : lc1 _ _ _ _ _ _ _ = X
  have h := lc_gen natD [0, 1] (fun _ => true) (fun k => .bl (if k = 0 then (fmT es fs).isNone else (fmT fs es).isNone)) hX (by simp) (by simp) (fun _ _ => rfl) (fun k hk _ => by
    have ixr : ∀ (rows : List Ent) (i : Nat), i < S.length → ∀ st, fIx (.lst (S.map fun w => .int (owedT rows w))) (natD i) st = .ok (.int (owedT rows (S.getD i 0))) st := fun rows i hi st => fIx_l (atI_nat (by rw [List.getElem?_map, List.getD_eq_getElem?_getD, List.getElem?_eq_getElem hi]; rfl))
    have fin : ∀ (a b : List Ent), (∀ d ∈ daysT (a ++ b), d ∈ S) → (((List.range S.length).map fun i => decide (owedT a (S.getD i 0) ≤ owedT b (S.getD i 0))).all id) = (fmT a b).isNone := fun a b h => by
      rw [← fmT_spots h, List.all_map, Bool.eq_iff_iff, List.all_eq_true, List.all_eq_true]
      constructor
      · intro z d hd
        obtain ⟨i, hi, rfl⟩ := List.mem_iff_getElem.mp hd
        have := z i (List.mem_range.mpr hi)
        simpa [List.getD_eq_getElem?_getD, List.getElem?_eq_getElem hi] using this
      · intro z i hi
        have hi := List.mem_range.mp hi
        have := z S[i] (List.getElem_mem hi)
        simpa [List.getD_eq_getElem?_getD, List.getElem?_eq_getElem hi] using this
    have rS : ∀ st, r11 (.ok (.int (S.length : Int)) st) = .ok ((List.range S.length).map natD) st := fun st => r11_nat (by omega) st
    have i0 : ∀ (a b : D) st, fIx (.lst [a, b]) (natD 0) st = .ok a st := fun _ _ _ => rfl
    have i1 : ∀ (a b : D) st, fIx (.lst [a, b]) (natD 1) st = .ok b st := fun _ _ _ => rfl
    have i0' : ∀ (a b : D) st, fIx (.lst [a, b]) (.int 0) st = .ok a st := fun _ _ _ => rfl
    have i1' : ∀ (a b : D) st, fIx (.lst [a, b]) (.int 1) st = .ok b st := fun _ _ _ => rfl
    have s0 : ∀ st, fSub (.int 1) (natD 0) st = .ok (.int 1) st := fun _ => rfl
    have s1 : ∀ st, fSub (.int 1) (natD 1) st = .ok (.int 0) st := fun _ => rfl
    simp only [List.mem_cons, List.not_mem_nil, or_false] at hk
    rcases hk with rfl | rfl
    · simp [wipeE, ll, rS]
      generalize hY : lc1 _ _ _ _ _ _ _ = Y
      have h := lc_gen natD (List.range S.length) (fun _ => true) (fun i => .bl (decide (owedT es (S.getD i 0) ≤ owedT fs (S.getD i 0)))) hY (by simp; omega) (by simp) (fun _ _ => rfl) (fun i hi _ => by
        have hi := List.mem_range.mp hi
        simp [wipeE, i0, i1', s0, ixr es i hi, ixr fs i hi])
      subst h
      have := fin es fs hSm
      rw [List.filter_eq_self.mpr (fun _ _ => rfl)]
      rw [← this]
      have e := all_bl ((List.range S.length).map fun i => decide (owedT es (S.getD i 0) ≤ owedT fs (S.getD i 0)))
      rw [List.map_map] at e
      exact e _
    · simp [wipeE, ll, rS]
      generalize hY : lc1 _ _ _ _ _ _ _ = Y
      have h := lc_gen natD (List.range S.length) (fun _ => true) (fun i => .bl (decide (owedT fs (S.getD i 0) ≤ owedT es (S.getD i 0)))) hY (by simp; omega) (by simp) (fun _ _ => rfl) (fun i hi _ => by
        have hi := List.mem_range.mp hi
        simp [wipeE, i1, i0', s1, ixr es i hi, ixr fs i hi])
      subst h
      have := fin fs es (fun d hd => hSm d (daysT_comm es fs hd))
      rw [List.filter_eq_self.mpr (fun _ _ => rfl)]
      rw [← this]
      have e := all_bl ((List.range S.length).map fun i => decide (owedT fs (S.getD i 0) ≤ owedT es (S.getD i 0)))
      rw [List.map_map] at e
      exact e _)
  subst h
  clear hX
  simp only [List.filter_cons, List.filter_nil, if_true, List.map_cons, List.map_nil, if_false, Nat.one_ne_zero]
  have n1 := never_ok hv11 hu11 (by omega)
  have n2 := never_ok hu11 hv11 (by omega)
  have n3 := less_ok hv11 hu11 (by omega)
  have n4 := less_ok hu11 hv11 (by omega)
  have nn := fun st => nevermore_ok (st := st) hva hvb (by omega : es.length + fs.length ≤ 4000)
  have z1 : ∀ env ma, meth1 "never_more" Mt_never_more ma env (.ok (.obj v) s11) = call1 (fun xs st2 => s_Book_never_more (.obj v :: xs) st2) (ma env s11) := fun env ma => meth1_ok hv11 rfl rfl
  have z2 : ∀ env ma, meth1 "never_more" Mt_never_more ma env (.ok (.obj u) s11) = call1 (fun xs st2 => s_Book_never_more (.obj u :: xs) st2) (ma env s11) := fun env ma => meth1_ok hu11 rfl rfl
  have z3 : ∀ env ma, meth1 "less" Mt_less ma env (.ok (.obj v) s11) = call1 (fun xs st2 => s_Book_less (.obj v :: xs) st2) (ma env s11) := fun env ma => meth1_ok hv11 rfl rfl
  have z4 : ∀ env ma, meth1 "less" Mt_less ma env (.ok (.obj u) s11) = call1 (fun xs st2 => s_Book_less (.obj u :: xs) st2) (ma env s11) := fun env ma => meth1_ok hu11 rfl rfl
  generalize (fmT es fs).isNone = b1 at n1 n2 n3 n4 nn ⊢
  generalize (fmT fs es).isNone = b2 at n1 n2 n3 n4 nn ⊢
  obtain ⟨bs, hbs⟩ : ∃ bs : List Bool, bs = [b1, b2, b1 && !b2, b2 && !b1] := ⟨_, rfl⟩
  have hbl : bs.length ≤ 20000 := by rw [hbs]; simp
  obtain ⟨s12, hs12⟩ : ∃ s12, s12 = s11 ++ [MO.lst (bs.map D.bl)] := ⟨_, rfl⟩
  have j12 : Jar j 7000 s12 := by rw [hs12]; exact j11.app _
  have hv12 : IsB v es s12 := by rw [hs12]; exact hv11.app _
  have hu12 : IsB u fs s12 := by rw [hs12]; exact hu11.app _
  have g12 : s12[s11.length]? = some (.lst (bs.map D.bl)) := by rw [hs12]; simp
  have k12 := like_obj (n := 7) g12 (smp_bl bs hbl 6)
  have kb := fun st => like_eq 8 (.bl b1) st trivial
  obtain ⟨days, ch, s13, p13, j13, f13⟩ := rule_ok (n := 6000) (j12.mono (by decide))
  have hv13 := hv12.fr f13 hjv
  have hu13 := hu12.fr f13 hju
  have hby := fun st => byrule_ok es hva (by omega) days ch st
  have hlm : ∀ st, IsB v es st → s_Book_laid [.obj v, manD days ch] st = .ok (.lst ((layT es days ch).map pairD)) st := fun st h => laid_m_ok h hva (by omega) days ch
  have hlf := fun st => laid_ok (st := st) hva (by omega : es.length ≤ 200) days ch
  have hpl := layT_len hva (by omega) days ch
  generalize layT es days ch = ps at hby hlm hlf hpl
  have hla := hlm s13 hv13
  have z5 : ∀ env ma, meth1 "laid" Mt_laid ma env (.ok (.obj v) s13) = call1 (fun xs st2 => s_Book_laid (.obj v :: xs) st2) (ma env s13) := fun env ma => meth1_ok hv13 rfl rfl
  obtain ⟨s14, hs14⟩ : ∃ s14, s14 = s13 ++ [MO.lst (ps.map pairD)] := ⟨_, rfl⟩
  have hv14 : IsB v es s14 := by rw [hs14]; exact hv13.app _
  have hu14 : IsB u fs s14 := by rw [hs14]; exact hu13.app _
  have g14 : s14[s13.length]? = some (.lst (ps.map pairD)) := by rw [hs14]; simp
  have sp := smp_pairs ps (by omega)
  have k14 := like_obj (n := 7) g14 (sp 5)
  have k15 := fun st => like_eq 8 _ st (sp 5)
  obtain ⟨s15, hs15⟩ : ∃ s15, s15 = s14.set s13.length (.lst []) := ⟨_, rfl⟩
  have hv15 : IsB v es s15 := by rw [hs15]; exact hv14.set (by have := hv13.lt; omega)
  have hu15 : IsB u fs s15 := by rw [hs15]; exact hu14.set (by have := hu13.lt; omega)
  have cl1 : ∀ env ma, lm1 opClear ma env (.ok (.obj s13.length) s14) = lm2 opClear s13.length (ma env s14) := fun env ma => lm1_ok g14
  have cl2 : lm2 opClear s13.length (.ok [] s14) = .ok .non s15 := by rw [lm2_ok g14 (show opClear _ [] = some (.non, []) from rfl), hs15]
  have z6 : ∀ env ma mk, methK1 "laid" 0 1 Mk_2 ma mk env (.ok (.obj v) s15) = methK2 0 1 (permFS [0, 1] s_Book_laid) v mk env (ma env s15) := fun env ma mk => methK1_ok hv15 rfl rfl
  have z7 : permFS [0, 1] s_Book_laid [.obj v, manD days ch] s15 = .ok (.lst (ps.map pairD)) s15 := hlm s15 hv15
  have v1 := isvol_ok hv15 (by omega)
  have v2 := isvol_ok hu15 (by omega)
  have nl1 : noLsts (bs.map D.bl) = true := noLsts_map fun _ _ => rfl
  have nl2 : noLsts (ps.map pairD) = true := noLsts_map fun _ _ => rfl
  have nm1 : noLst (manD days ch) = true := rfl
  have q1 := adopt1_ok (st := s11) nl1
  rw [← hs12] at q1
  have q2 := adopt1_ok (st := s13) nl2
  rw [← hs14] at q2
  have nll : ∀ ds, noLst (.lst ds) = false := fun ds => by rw [noLst]
  have i0 : ∀ (a b : D) st, fIx (.lst [a, b]) (.int 0) st = .ok a st := fun _ _ _ => rfl
  have i1 : ∀ (a b : D) st, fIx (.lst [a, b]) (.int 1) st = .ok b st := fun _ _ _ => rfl
  have ad : ∀ (a b c d : D) st, fAdd (.lst [a, b]) (.lst [c, d]) st = .ok (.lst [a, b, c, d]) st := fun _ _ _ _ _ => rfl
  refine ⟨s15, ?_⟩
  simp only [hbs, List.map_cons, List.map_nil] at q1 k12
  cases b1 <;> cases b2 <;> simp at q1 k12 <;> simp [z1, z2, z3, z4, n1, n2, n3, n4, q1, k12, nn, kb, p13, hby, z5, hla, q2, k14, hlf, k15, cl1, cl2, z6, z7, v1, v2, i0, i1, ad, nll, nm1]

theorem plain_law (ns : List Int) (hl : ns.length ≤ 63) : ∃ st, fnOf nslots_law m_law [.scr ns] [] = .ok (.bl true) st := by
  have e1 : ∀ st, fPow (.int 10) (.int 18) st = .ok (.int (10 ^ 18)) st := fun st => fPow_i (by decide) (by decide) (by decide)
  obtain ⟨great, hg⟩ : ∃ great : Int, great = 10 ^ 18 + 7901984843886844562600996564974878985555838655652191449302546095426168577516 := ⟨_, rfl⟩
  have hc : ∀ x ∈ cutD (ns.map D.int) none (some 6), ∃ i, x = .int i := fun x hx => by
    obtain ⟨i, _, rfl⟩ := List.mem_map.mp (cutD_mem hx); exact ⟨i, rfl⟩
  have hcl := cutD_len (ns.map D.int) none (some 6)
  generalize hcs : cutD (ns.map D.int) none (some 6) = cs at hc hcl
  rw [List.length_map] at hcl
  obtain ⟨e, s, h1, x2, rfl⟩ := forGo_inv (t := Tg.nm 2) (mb := (mIf (eNot (eCall s__law_one (aCons (eVar 2) aNil))) (mRet (eC (.bl false))) mNext))
    (fun i env st => ∃ x2, env = [.val (.scr ns), .val (.int great), x2]) (D.int great :: cs) [.val (.scr ns), .val (.int great), .un] [] ⟨_, rfl⟩ (by
      rintro i x env st hx ⟨x2, rfl⟩
      refine ⟨_, rfl, ?_⟩
      obtain ⟨c, rfl⟩ : ∃ c, x = .int c := by
        rcases List.mem_cons.mp (List.mem_of_getElem? hx) with h | h
        · exact ⟨_, h⟩
        · exact hc x h
      obtain ⟨st', h⟩ := one_ok c st
      exact ⟨[.val (.scr ns), .val (.int great), .val (.int c)], st', .inl (by simp [h]), _, rfl⟩)
  refine ⟨s, ?_⟩
  have a1 : ∀ st, fAdd (.lst [.int great]) (.lst cs) st = .ok (.lst (.int great :: cs)) st := fun st => fAdd_l (by simp; omega)
  have g1 : (10 : Int) ^ 18 + 7901984843886844562600996564974878985555838655652191449302546095426168577516 = great := hg.symm
  have g2 : ∀ st, fAdd (.int (10 ^ 18)) (.int 7901984843886844562600996564974878985555838655652191449302546095426168577516) st = .ok (.int great) st := fun st => by rw [fAdd_i, g1]
  rw [pf_fnOf]
  simp [m_law, startE, e1, g2, hcs, a1, h1, -Int.reducePow, -Int.reduceAdd, -fAdd_i]

end G_k78
set_option maxHeartbeats 0
namespace H_k78
open PySem PySem.Spec PyProof.Rows L2 Fx G_k78
abbrev R : PySem.W.OpenRow := PySem.W.OpenLaw.row PySem.Challenge.rw_oldestbills_k78_books_on_days
abbrev qv : Program := PySem.W.view R.prog [70]
def names0 : List PySem.Str := ["_wall", "BillError", "InvalidAccount", "InvalidManner", "InvalidDay", "InvalidIndex", "InvalidBook", "SEQUENCES", "CHOICES", "PAYING", "is_integer", "has_word", "is_plain_entry", "has_entry_form", "names_rightly", "is_account", "is_manner", "need_account", "need_manner", "need_day", "is_place", "need_index", "line_of", "up_to", "raised", "join_entries", "chosen_bill", "partner", "pairs_of", "laid"]
def names1 : List PySem.Str := ["signed", "balance_on", "days_in", "owed_by", "owed", "first_more", "never_more", "least_entries", "least_account", "same_balance", "is_same_entry", "turned", "Book", "need_book", "_law_bag_of", "_law_pick", "_law_like", "_law_height", "_law_reach", "_law_some", "_law_with_names", "_law_along", "_law_partner", "_law_by_rule", "_law_rule", "_law_any", "_law_level", "_law_turning_days", "_law_volume", "_law_is_volume"]
def names2 : List PySem.Str := ["_law_other", "_law_on_days", "_law_one"]
def names : List PySem.Str := names0 ++ names1 ++ names2
def ads : List Addr := [2, 3, 6, 4, 21, 31, 44, 56, 68, 80, 92, 95, 96, 97, 104, 111, 118, 125, 132, 137, 144, 151, 158, 165, 172, 179, 184, 189, 196, 201, 208, 213, 218, 225, 232, 237, 242, 249, 256, 263, 270, 277, 284, 291, 296, 303, 449, 460, 467, 474, 481, 488, 495, 502, 507, 512, 517, 522, 529, 536, 543, 548, 555, 562, 567, 572, 577, 584, 0, 20, 30, 43, 55, 67, 79, 91, 103, 110, 117, 124, 131, 136, 143, 150, 157, 164, 171, 178, 183, 188, 195, 200, 207, 212, 217, 224, 231, 236, 241, 248, 255, 262, 269, 276, 283, 290, 295, 302, 448, 459, 466, 473, 480, 487, 494, 501, 506, 511, 516, 521, 528, 535, 542, 547, 554, 561, 566, 571, 576, 583, 15, 16, 17, 18, 19, 29, 32, 42, 54, 66, 78, 90, 98, 99, 100, 101, 102, 105, 106, 107, 108, 109, 112, 113, 114, 115, 116, 119, 120, 121, 122, 123, 126, 127, 128, 129, 130, 133, 134, 135, 138, 139, 140, 141, 142, 145, 146, 147, 148, 149, 152, 153, 154, 155, 156, 159, 160, 161, 162, 163, 166, 167, 168, 169, 170, 173, 174, 175, 176, 177, 180, 182, 185, 186, 187, 190, 191, 192, 193, 194, 197, 198, 199, 202, 203, 204, 205, 206, 209, 210, 211, 214, 215, 216, 219, 220, 221, 222, 223, 226, 227, 228, 229, 230, 233, 234, 235, 238, 239, 240, 243, 244, 245, 246, 247, 250, 251, 252, 253, 254, 257, 258, 259, 260, 261, 264, 265, 266, 267, 268, 271, 272, 273, 274, 275, 278, 279, 280, 281, 282, 285, 286, 287, 288, 289, 292, 293, 294, 297, 298, 299, 300, 301, 317, 325, 333, 341, 346, 353, 360, 365, 372, 379, 384, 391, 398, 405, 412, 419, 426, 435, 445, 447, 450, 451, 454, 455, 456, 457, 458, 461, 462, 463, 464, 465, 468, 469, 470, 471, 472, 475, 476, 477, 478, 479, 482, 483, 484, 485, 486, 489, 490, 491, 492, 493, 496, 497, 498, 499, 500, 503, 504, 505, 508, 509, 510, 513, 514, 515, 518, 519, 520, 523, 524, 525, 526, 527, 530, 531, 532, 533, 534, 537, 538, 539, 540, 541, 544, 545, 546, 549, 550, 551, 552, 553, 556, 557, 558, 559, 560, 563, 564, 565, 568, 569, 570, 573, 574, 575, 578, 579, 580, 581, 582, 316, 324, 332, 340, 345, 352, 359, 364, 371, 378, 383, 390, 397, 404, 411, 418, 425, 433, 434, 443, 444, 311, 312, 313, 314, 315, 323, 331, 339, 342, 343, 344, 347, 348, 349, 350, 351, 354, 355, 356, 357, 358, 361, 362, 363, 366, 367, 368, 369, 370, 373, 374, 375, 376, 377, 380, 381, 382, 385, 386, 387, 388, 389, 392, 393, 394, 395, 396, 399, 400, 401, 402, 403, 406, 407, 408, 409, 410, 413, 414, 415, 416, 417, 420, 421, 422, 423, 424, 432, 436, 442, 446]
abbrev hk : PySem.W.Hook := hookXL ads cd.lams fa fn
def ob (s : PySem.W.SharedT) : He.AlD := obsXL ads cd.lams fa fn (HandSHeadRun.getT s)
theorem ob_eq (s : PySem.W.SharedT) : ob s = hk.obs s.abs := obsXL_eq (HandSHeadRun.getT_eq s)
theorem run (w : World) : HandSHeadRun.RunEq R qv hk ob 9000 names w := by
  intro os
  kernel_rfl
end H_k78
open PySem PySem.W PySem.Calls PyProof.Rows

theorem PySem.Challenge.cw_oldestbills_k78_books_on_days_holds : PySem.Challenge.rw_oldestbills_k78_books_on_days.Holds := by
  w_on; o_law
  refine HandSHeadRun.head_any (r := OpenLaw.row PySem.Challenge.rw_oldestbills_k78_books_on_days) (q := view (OpenLaw.row PySem.Challenge.rw_oldestbills_k78_books_on_days).prog [70]) (H := H_k78.hk) (ob := H_k78.ob) (M := 9000) (loose := H_k78.names) (d := HandSHeadRun.topDef (OpenLaw.row PySem.Challenge.rw_oldestbills_k78_books_on_days).prog 70) (kwd := []) H_k78.ob_eq
    (by kernel_rfl) (fun s => by kernel_rfl) H_k78.run (by kernel_rfl) (by kernel_rfl) (by kernel_rfl) (by rfl) (by first | assumption | decide +kernel) (by decide +kernel) ⟨rfl, rfl, rfl, rfl, rfl, by decide +kernel⟩ ?hw ?hc
  case hw => w_witness2
  case hc =>
    refine LamX.walk_ofTsE (l := PySem.Challenge.rw_oldestbills_k78_books_on_days) (n := 63) (k := 12) (x := "script") (CX := fun _ => L2.CX0) rfl (by decide) (by kernel_rfl) ⟨rfl, by decide, by decide⟩ ?F (fun _ _ _ _ _ z => z)
    intro w mg fa h Y G hmg0
    obtain ⟨K, KX, c, t⟩ := Y
    have S : Fx.SX0 G_k78.fa G_k78.fn K mg := ⟨c, h, KX, G⟩
    have hmg : mg ("law" : PySem.Str) = some (.ref fa) := by
      have e : (HandSHeadRun.topDef (OpenLaw.row PySem.Challenge.rw_oldestbills_k78_books_on_days).prog 70).name = ("law" : PySem.Str) := by kernel_rfl
      rw [← e]
      exact hmg0
    have e := hmg.symm.trans (S.glo G_k78.glo_law)
    cases e
    obtain ⟨fd, hb, hF⟩ := G_k78.okk_law (P := (PySem.Challenge.rw_oldestbills_k78_books_on_days).prog) (w := w) S
    exact ⟨K, KX, Fx.lawAt (cn := G_k78.cn) rfl t hb G_k78.plain_law fun base _ _ hT => hF base hT⟩

